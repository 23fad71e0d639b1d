import PyProof.Rows.All
import Wide.All
import OpenK.AllK
import Wide.FinOn
import HandS.List
import PyProof.Lay0
import PyProof.P3Statements
import HandS.Dict
import HandS.Text
import PyProof.ReprRoads
import HandS.ForMost
import HandS.ForExc
import HandS.OwnEq
import HandS.ExcInit
import HandS.ExcField
import HandS.Wide
import HandS.IsInst
import HandS.Property
import KE.IntBitsLaws
import HandS.Star
import HandS.RaiseMore
import HandS.WordsDict
import HandS.MakeKw
import HandS.CallRecv
import HandS.TryOnly
import HandS.Iter
import HandS.ClsMeth
import HandS.Defaults
import HandS.Comp
import HandS.Small
import HandS.HeadEnd
import HandS.HeadHook4
import HandS.HeadNt
import HandS.Head0
import HandS.Head1
import HandS.Head2
import KE.KStateDown
import PySem.Challenge.RW_pledgepools_k56_rules_over_rows_of_uses
set_option Elab.async false
section
set_option linter.all false
/-! DI.Sem: an IR for the programs' subset of Python, and what it computes, over deep values.
    Immutable data stand by value; mutable objects are numbered cells of a store; a slot may own its list, dict or instance. -/
namespace DI
open PySem L2

/-- deep values -/
inductive D where
  | non | bl (b : Bool) | int (i : Int) | str (s : Str)
  | tup (xs : List D) | lst (xs : List D) | dct (kvs : List (Key × D)) | obj (c : Nat) (fs : List (Str × D))
  | ref (i : Nat)
  deriving Inhabited
/-- a mutable cell -/
inductive MC where
  | lst (xs : List D) | dct (kvs : List (Key × D)) | ins (c : Nat) (fs : List (Str × D)) | dead
abbrev MS := List MC
structure Exc where
  cls : Str
  arg : Option D
inductive Res (α : Type) where
  | ok (a : α) (m : MS) | exc (e : Exc) (m : MS) | stuck
@[simp] def Res.bind {α β : Type} : Res α → (α → MS → Res β) → Res β
  | .ok a m, f => f a m
  | .exc e m, _ => .exc e m
  | .stuck, _ => .stuck
abbrev Sem := List D → MS → Res D
/-- what a slot holds: a shared value, or an object of its own -/
inductive SV where
  | sh (d : D) | ow (c : MC) | ex (e : Exc)
abbrev Sl := List (Option SV)

/-- what a def leans on: functions and classes that it calls, methods by name (class code, meaning), operators of own classes -/
structure G where
  fn : List Sem := []
  me : List (List (Nat × Sem)) := []
  add : List (Nat × Sem) := []
  sub : List (Nat × Sem) := []
  mul : List (Nat × Sem) := []
  neg : List (Nat × Sem) := []
  eq : List (Nat × Sem) := []
  lt : List (Nat × Sem) := []
  le : List (Nat × Sem) := []
  fld : List (Nat × Str) := []

inductive Bop where | add | sub | mul | fdiv | mod | pow
  deriving DecidableEq
inductive Cop where | eq | ne | lt | le | gt | ge | in_ | nin
  deriving DecidableEq
/-- classes that isinstance asks for -/
inductive Ty where | int | bool | str | list | tuple | dict | cls (c : Nat)
  deriving DecidableEq
/-- built-in functions -/
inductive Bi where | len | abs | int | max | min | all | any | list | tuple | repr | str | sorted | dict
  deriving DecidableEq
/-- targets -/
inductive T where
  | var (i : Nat) | tup (ts : List T)

mutual
inductive E where
  | con (d : D)
  | var (i : Nat)
  | star (a : E)
  | glo (x : Str) (d : D)
  | bin (op : Bop) (a b : E)
  | addI (a b : E) | repr (a : E) | eqS (a b : E)
  | neg (a : E) | not (a : E) | and (a b : E) | or (a b : E)
  | cmp (op : Cop) (a b : E)
  | cmp2 (o p : Cop) (a b c : E)
  | isN (ng : Bool) (a : E)
  | ite (c a b : E)
  | tup (xs : List E) | lst (xs : List E) | lstM (xs : List E)
  | dct (kvs : List E)
  | attr (a : E) (f : Str)
  | prop (mi : Nat) (a : E)
  | idx (a b : E)
  | idxO (i : Nat) (b : E)
  | lenO (i : Nat)
  | slc (a : E) (lo hi : Option E)
  | call (k : Nat) (args kws : List E)
  | meth (mi : Nat) (nm : Str) (o : E) (args kws : List E)
  | bi (b : Bi) (args : List E)
  | inst (a : E) (tys : List Ty)
  | exA (i : Nat) (f : Str)
  | lcomp (elt : E) (t : T) (it : It) (cs : List E)
  | dcomp (k v : E) (t : T) (it : It) (cs : List E)
inductive It where
  | seq (a : E) | rng (a : E) | rng2 (a b : E) | zip (a b : E) | enum (a : E) | items (a : E) | vals (a : E)
end

inductive S where
  | expr (e : E) | asg (t : T) (e : E)
  | newL (i : Nat) (xs : List E) | newD (i : Nat)
  | setV (i : Nat) (k v : E) | appV (i : Nat) (e : E) | atV (i : Nat) (f : Str) (e : E)
  | setR (o k v : E) | appR (o e : E) | atR (o : E) (f : Str) (e : E)
  | frz (i : Nat)
  | ret (e : E) | retN | retO (i : Nat)
  | ite (c : E) (a b : List S) | for_ (t : T) (it : It) (body : List S) | whl (c : E) (body : List S)
  | brk | cont | pass
  | raise (cls : Str) (args : List E)
  | try_ (body : List S) (hs : List (Str × Option Nat × List S))

/-! ### operations on values -/
/-- the class of a value, for operators -/
def inner (m : MS) : D → D
  | .ref i => match m[i]? with
    | some (.lst xs) => .lst xs
    | some (.dct kvs) => .dct kvs
    | _ => .ref i
  | d => d
/-- the code of an instance's class -/
def clsOf (m : MS) : D → Option Nat
  | .obj c _ => some c
  | .ref i => match m[i]? with
    | some (.ins c _) => some c
    | _ => none
  | _ => none
def mulBits : Nat := 60000000
/-- how great numbers may be -/
def mulOk (i j : Int) : Prop := i.natAbs < 2 ^ mulBits ∧ j.natAbs < 2 ^ mulBits
def divOk (j : Int) : Prop := j ≠ 0 ∧ j.natAbs < 2 ^ 9000
open Classical in
noncomputable def intBin : Bop → Int → Int → Option Int
  | .add, i, j => some (i + j)
  | .sub, i, j => some (i - j)
  | .mul, i, j => if mulOk i j then some (i * j) else none
  | .fdiv, i, j => if divOk j then some (i.fdiv j) else none
  | .mod, i, j => if j = 0 then none else some (i.fmod j)
  | .pow, i, j => if 0 ≤ j ∧ j ≤ 100 ∧ i.natAbs < 2 ^ 1000 then some (i ^ j.toNat) else none
def opTab (g : G) : Bop → List (Nat × Sem)
  | .add => g.add | .sub => g.sub | .mul => g.mul | _ => []
def maxLen : Nat := 100000
noncomputable def binD (g : G) (op : Bop) (x y : D) (m : MS) : Res D :=
  match x, y with
  | .int i, .int j => match intBin op i j with
    | some k => .ok (.int k) m
    | none => .stuck
  | .lst xs, .lst ys => if op = .add ∧ xs.length + ys.length ≤ maxLen then .ok (.lst (xs ++ ys)) m else .stuck
  | .str a, .str b => if op = .add ∧ a.length + b.length ≤ maxLen then .ok (.str (a ++ b)) m else .stuck
  | .obj c fs, .int j => match (opTab g op).lookup c with
    | some f => f [.obj c fs, .int j] m
    | none => .stuck
  | .obj c fs, .obj d gs => if d = c then (match (opTab g op).lookup c with
    | some f => f [.obj c fs, .obj d gs] m
    | none => .stuck) else .stuck
  | _, _ => .stuck
def negD (g : G) (x : D) (m : MS) : Res D :=
  match x with
  | .int i => .ok (.int (-i)) m
  | .obj c fs => match g.neg.lookup c with
    | some f => f [.obj c fs] m
    | none => .stuck
  | _ => .stuck
/-- a truth value, told -/
def asBool : D → Option Bool
  | .bl b => some b
  | _ => none

/-! ### equality -/
/-- a flat value as the layer's own -/
def toV : D → Option V
  | .non => some .non
  | .bl b => some (.bl b)
  | .int i => some (.int i)
  | .str s => some (.str s)
  | _ => none
/-- item by item; of unlike length not equal -/
def eqL (eq : D → D → MS → Res Bool) : List D → List D → MS → Res Bool
  | [], [], m => .ok true m
  | x :: xs, y :: ys, m => (eq x y m).bind fun b m => if b then eqL eq xs ys m else .ok false m
  | _, _, m => .ok false m
def look (kvs : List (Key × D)) (k : Key) : Option D := (kvs.find? fun kv => decide (kv.1 = k)).map (·.2)
def put (kvs : List (Key × D)) (k : Key) (v : D) : List (Key × D) :=
  if (kvs.any fun kv => decide (kv.1 = k)) = true then kvs.map (fun kv => if kv.1 = k then (kv.1, v) else kv) else kvs ++ [(k, v)]
def eqK (eq : D → D → MS → Res Bool) (other : List (Key × D)) : List (Key × D) → MS → Res Bool
  | [], m => .ok true m
  | (k, x) :: r, m => match look other k with
    | none => .ok false m
    | some y => (eq x y m).bind fun b m => if b then eqK eq other r m else .ok false m
def askB (r : Res D) : Res Bool := match r with
  | .ok (.bl b) m => .ok b m
  | _ => .stuck
/-- data without objects, as the library's own -/
def allP (f : D → Option PyData) : List D → Option (List PyData)
  | [] => some []
  | x :: xs => match f x, allP f xs with
    | some p, some ps => some (p :: ps)
    | _, _ => none
def toP : Nat → D → Option PyData
  | 0, _ => none
  | _ + 1, .non => some .none
  | _ + 1, .bl b => some (.bool b)
  | _ + 1, .int i => some (.int i)
  | _ + 1, .str s => if PyData.strOk s then some (.str s) else none
  | n + 1, .tup xs => (allP (toP n) xs).map .tuple
  | n + 1, .lst xs => (allP (toP n) xs).map .list
  | _ + 1, _ => none
/-- an error within == is not told -/
def eqD (g : G) : Nat → D → D → MS → Res Bool
  | 0, _, _, _ => .stuck
  | n + 1, x, y, m => match toP 9 x, toP 9 y with
    | some p, some q => .ok (PyData.eqv p q) m
    | _, _ => match x, y with
      | .tup xs, .tup ys => if xs.length = ys.length then eqL (eqD g n) xs ys m else .stuck
      | .lst xs, .lst ys => if xs.length = ys.length then eqL (eqD g n) xs ys m else .ok false m
      | .obj _ _, .ref _ => .stuck
      | .obj c fs, y => match g.eq.lookup c with
        | some f => askB (f [.obj c fs, y] m)
        | none => .stuck
      | _, _ => .stuck
def eqFuel : Nat := 6

/-! ### comparisons -/
def keyD : D → Option Key
  | .int i => some (.inl i)
  | .str s => some (.inr s)
  | _ => none
def keyOf : Key → D
  | .inl i => .int i
  | .inr s => .str s
def inD (x y : D) (m : MS) : Option Bool :=
  match inner m y with
  | .dct kvs => (keyD x).map fun k => (look kvs k).isSome
  | .lst ys => match toV x, ys.mapM toV with
    | some v, some vs => some (inV v vs)
    | _, _ => none
  | .tup ys => match toV x, ys.mapM toV with
    | some v, some vs => some (inV v vs)
    | _, _ => none
  | .str z => match x with
    | .str w => match w.cps.toList with
      | [c] => some (decide (c ∈ z.cps.toList))
      | _ => none
    | _ => none
  | _ => none
def ltTab (g : G) : Cop → List (Nat × Sem)
  | .lt => g.lt | .le => g.le | _ => []
def cmpD (g : G) (op : Cop) (x y : D) (m : MS) : Res D :=
  match op with
  | .eq => match eqD g eqFuel x y m with
    | .ok b m => .ok (.bl b) m
    | _ => .stuck
  | .ne => match eqD g eqFuel x y m with
    | .ok b m => .ok (.bl !b) m
    | _ => .stuck
  | .in_ => match inD x y m with
    | some b => .ok (.bl b) m
    | none => .stuck
  | .nin => match inD x y m with
    | some b => .ok (.bl !b) m
    | none => .stuck
  | op => match x, y with
    | .int i, .int j => .ok (.bl (match op with | .lt => decide (i < j) | .le => decide (i ≤ j) | .gt => decide (j < i) | _ => decide (j ≤ i))) m
    | .obj _ _, .ref _ => .stuck
    | .obj c fs, y => match (ltTab g op).lookup c with
      | some f => f [.obj c fs, y] m
      | none => .stuck
    | _, _ => .stuck

/-! ### subscripts, attributes, built-ins -/
def idxD (x y : D) (m : MS) : Option D :=
  match inner m x, y with
  | .lst xs, .int i => atI xs i
  | .tup xs, .int i => atI xs i
  | .str z, .int i => if z.length ≤ maxLen then (atI z.cps.toList i).map fun c => .str ⟨#[c]⟩ else none
  | .dct kvs, k => (keyD k).bind (look kvs)
  | _, _ => none
def cutD (xs : List D) (lo hi : Option Int) : List D := (xs.drop (HT.sIx xs.length 0 lo)).take (HT.sIx xs.length xs.length hi - HT.sIx xs.length 0 lo)
def slcD (x : D) (lo hi : Option Int) (m : MS) : Option D :=
  match inner m x with
  | .lst xs => some (.lst (cutD xs lo hi))
  | .str z => if z.length ≤ maxLen then some (.str (cutS z lo hi)) else none
  | _ => none
def attrD (g : G) (x : D) (f : Str) (m : MS) : Option D :=
  match x with
  | .obj c fs => if (c, f) ∈ g.fld then fs.lookup f else none
  | .ref i => match m[i]? with
    | some (.ins c fs) => if (c, f) ∈ g.fld then fs.lookup f else none
    | _ => none
  | _ => none
def lenD (x : D) (m : MS) : Option Nat :=
  match inner m x with
  | .lst xs => some xs.length
  | .tup xs => some xs.length
  | .dct kvs => some kvs.length
  | .str z => if z.length ≤ maxLen then some z.length else none
  | _ => none
/-- the type of a value -/
inductive Kd where | non | bl | int | str | tup | lst | dct | own (c : Nat)
def kdS : Kd → String
  | .non => "NoneType" | .bl => "bool" | .int => "int" | .str => "str" | .tup => "tuple" | .lst => "list" | .dct => "dict" | .own _ => ""
def tyN (m : MS) (d : D) : Option Kd := match inner m d with
  | .non => some .non | .bl _ => some .bl | .int _ => some .int | .str _ => some .str
  | .tup _ => some .tup | .lst _ => some .lst | .dct _ => some .dct | .obj c _ => some (.own c)
  | .ref i => (match m[i]? with | some (.ins c _) => some (.own c) | _ => none)
def kdIs : Kd → Ty → Bool
  | .int, .int => true | .bl, .int => true | .bl, .bool => true | .str, .str => true | .lst, .list => true | .tup, .tuple => true | .dct, .dict => true
  | .own d, .cls c => d == c
  | _, _ => false
def boolsD : List D → Option (List Bool)
  | [] => some []
  | .bl b :: r => (boolsD r).map (b :: ·)
  | _ => none
def truths (ys : List D) (F : List Bool → Bool) : Option D := (boolsD ys).map fun bs => .bl (F bs)
def biD (b : Bi) (xs : List D) (m : MS) : Option D :=
  match b, xs with
  | .len, [x] => (lenD x m).map fun (n : Nat) => .int n
  | .abs, [.int i] => some (.int (if i < 0 then -i else i))
  | .int, [.int i] => some (.int i)
  | .int, [.bl b] => some (.int (if b then 1 else 0))
  | .max, [.int i, .int j] => some (.int (if j > i then j else i))
  | .min, [.int i, .int j] => some (.int (if j < i then j else i))
  | .all, [x] => match inner m x with
    | .lst ys => truths ys fun bs => bs.all id
    | _ => none
  | .any, [x] => match inner m x with
    | .lst ys => truths ys fun bs => bs.any id
    | _ => none
  | .list, [x] => match inner m x with
    | .lst ys => some (.lst ys)
    | .tup ys => some (.lst ys)
    | _ => none
  | .tuple, [x] => match inner m x with
    | .lst ys => some (.tup ys)
    | .tup ys => some (.tup ys)
    | _ => none
  | .repr, [.int i] => if i.natAbs.log2 < 1920 then some (.str (toString i)) else none
  | .str, [.int i] => if i.natAbs.log2 < 1920 then some (.str (toString i)) else none
  | .str, [.str a] => some (.str a)
  | _, _ => none
/-- the things that a walk gives -/
def itemsD (x : D) : Option (List D) := match x with
  | .lst xs => some xs
  | .tup xs => some xs
  | .dct kvs => some (kvs.map fun kv => keyOf kv.1)
  | .str z => some (z.cps.toList.map fun c => .str ⟨#[c]⟩)
  | _ => none
def rngD (lo hi : Int) : Option (List D) :=
  if -(2 ^ 62) ≤ lo ∧ lo < 2 ^ 62 ∧ -(2 ^ 62) ≤ hi ∧ hi < 2 ^ 62 then some ((List.range (hi - lo).toNat).map fun (k : Nat) => .int (lo + (k : Int))) else none

/-- the attribute of an own exception -/
def excAttr (c : Str) : Str := if c = "BadLine" then "line" else "given"
/-! ### targets -/
mutual
def asgT : T → D → Sl → Option Sl
  | .var i, d, σ => some (σ.set i (some (.sh d)))
  | .tup ts, .tup xs, σ => if ts.length = xs.length then asgTs ts xs σ else none
  | .tup ts, .lst xs, σ => if ts.length = xs.length then asgTs ts xs σ else none
  | .tup _, _, _ => none
def asgTs : List T → List D → Sl → Option Sl
  | [], _, σ => some σ
  | t :: ts, x :: xs, σ => (asgT t x σ).bind fun σ => asgTs ts xs σ
  | _ :: _, [], _ => none
end

mutual
/-- the slots of a target -/
def T.slots : T → List Nat
  | .var i => [i]
  | .tup ts => T.slotss ts
def T.slotss : List T → List Nat
  | [] => []
  | t :: ts => t.slots ++ T.slotss ts
end
/-- slots forgotten -/
def wipeS (s : Sl) : List Nat → Sl
  | [] => s
  | v :: vs => (wipeS s vs).set v none
/-! ### expressions -/
def pairsD : List D → Option (List (Key × D))
  | [] => some []
  | k :: v :: r => match keyD k, pairsD r with
    | some k, some r => some ((k, v) :: r)
    | _, _ => none
  | _ => none
/-- a dict of pairs, in their order -/
def dctOf (ys : List D) : List (Key × D) := ys.foldl (fun acc p => match p with
  | .tup [x, y] => (match keyD x with | some k => put acc k y | none => acc)
  | _ => acc) []
/-- an error within a comprehension is not told -/
def noX {α : Type} : Res α → Res α
  | .exc _ _ => .stuck
  | r => r
/-- the turns of a comprehension -/
def compL (f : D → MS → Res (Option D)) : List D → MS → Res (List D)
  | [], m => .ok [] m
  | x :: xs, m => (noX (f x m)).bind fun o m => (compL f xs m).bind fun r m => .ok (match o with | some y => y :: r | none => r) m
def liftO {α : Type} (o : Option α) (m : MS) : Res α := match o with
  | some a => .ok a m
  | none => .stuck
/-- a call with so many values, and so many by name -/
def callD (f : Option Sem) (n k : Nat) (first ds es : List D) (m : MS) : Res D := match f with
  | some f => if ds.length = n ∧ es.length = k then f (first ++ (ds ++ es)) m else .stuck
  | none => .stuck
/-- the class and the fields of an instance -/
def insOf (m : MS) : D → Option (Nat × List (Str × D))
  | .obj c fs => some (c, fs)
  | .ref i => match m[i]? with
    | some (.ins c fs) => some (c, fs)
    | _ => none
  | _ => none
def methD (g : G) (mi : Nat) (nm : Str) (x : D) (m : MS) : Option Sem := match insOf m x, g.me[mi]? with
  | some (c, fs), some tab => if fs.lookup nm = none then tab.lookup c else none
  | _, _ => none
/-- what an item of a display adds -/
def splD (e : E) (x : D) (m : MS) : Option (List D) := match e with
  | .star _ => (match inner m x with
    | .lst ys => some ys
    | .tup ys => some ys
    | _ => none)
  | _ => some [x]
/-- data that repr shows -/
def toR (d : D) : Option PyData := match d with
  | .dct [] => some (.dict [])
  | d => toP 9 d
def reprD (d : D) : Option D := match toR d with
  | some p => if p.showable = true ∧ p.shown.length ≤ maxLen then some (.str p.shown) else none
  | none => none
mutual
noncomputable def evE (g : G) : E → Sl → MS → Res D
  | .con d, _, m => .ok d m
  | .glo _ d, _, m => .ok d m
  | .var i, σ, m => match σ[i]? with
    | some (some (.sh d)) => .ok d m
    | _ => .stuck
  | .bin op a b, σ, m => (evE g a σ m).bind fun x m => (evE g b σ m).bind fun y m => binD g op x y m
  | .addI a b, σ, m => (evE g a σ m).bind fun x m => (evE g b σ m).bind fun y m => match x, y with
    | .int i, .int j => .ok (.int (i + j)) m
    | _, _ => .stuck
  | .repr a, σ, m => (evE g a σ m).bind fun x m => liftO (reprD x) m
  | .eqS a b, σ, m => (evE g a σ m).bind fun x m => (evE g b σ m).bind fun y m => match x, y with
    | .str i, .str j => .ok (.bl (decide (i = j))) m
    | _, _ => .stuck
  | .neg a, σ, m => (evE g a σ m).bind fun x m => negD g x m
  | .not a, σ, m => (evE g a σ m).bind fun x m => match x with
    | .bl b => .ok (.bl !b) m
    | _ => .stuck
  | .and a b, σ, m => (evE g a σ m).bind fun x m => match x with
    | .bl true => (evE g b σ m).bind fun y m => match y with
      | .bl c => .ok (.bl c) m
      | _ => .stuck
    | .bl false => .ok (.bl false) m
    | _ => .stuck
  | .or a b, σ, m => (evE g a σ m).bind fun x m => match x with
    | .bl false => (evE g b σ m).bind fun y m => match y with
      | .bl c => .ok (.bl c) m
      | _ => .stuck
    | .bl true => .ok (.bl true) m
    | _ => .stuck
  | .cmp op a b, σ, m => (evE g a σ m).bind fun x m => (evE g b σ m).bind fun y m => cmpD g op x y m
  | .cmp2 o p a b c, σ, m => (evE g a σ m).bind fun x m => (evE g b σ m).bind fun y m => (cmpD g o x y m).bind fun r m => match r with
    | .bl true => (evE g c σ m).bind fun z m => cmpD g p y z m
    | .bl false => .ok (.bl false) m
    | _ => .stuck
  | .isN ng a, σ, m => (evE g a σ m).bind fun x m => .ok (.bl (match x with | .non => !ng | _ => ng)) m
  | .ite c a b, σ, m => (evE g c σ m).bind fun x m => match x with
    | .bl true => evE g a σ m
    | .bl false => evE g b σ m
    | _ => .stuck
  | .star a, σ, m => evE g a σ m
  | .tup xs, σ, m => (evEs g xs σ m).bind fun ds m => if ds.length ≤ maxLen then .ok (.tup ds) m else .stuck
  | .lst xs, σ, m => (evEs g xs σ m).bind fun ds m => if ds.length ≤ maxLen then .ok (.lst ds) m else .stuck
  | .lstM xs, σ, m => (evEs g xs σ m).bind fun ds m => if ds.length ≤ maxLen then .ok (.ref m.length) (m ++ [.lst ds]) else .stuck
  | .dct es, σ, m => (evEs g es σ m).bind fun ds m => match pairsD ds with
    | some kvs => if kvs.length ≤ 15 then .ok (.dct (kvs.foldl (fun acc kv => put acc kv.1 kv.2) [])) m else .stuck
    | none => .stuck
  | .attr a f, σ, m => (evE g a σ m).bind fun x m => liftO (attrD g x f m) m
  | .prop mi a, σ, m => (evE g a σ m).bind fun x m => match insOf m x, g.me[mi]? with
    | some (c, _), some tab => match tab.lookup c with
      | some f => f [x] m
      | none => .stuck
    | _, _ => .stuck
  | .idx a b, σ, m => (evE g a σ m).bind fun x m => (evE g b σ m).bind fun y m => liftO (idxD x y m) m
  | .idxO i b, σ, m => match σ[i]? with
    | some (some (.ow (.lst xs))) => (evE g b σ m).bind fun y m => match y with
      | .int j => liftO (atI xs j) m
      | _ => .stuck
    | _ => .stuck
  | .lenO i, σ, m => match σ[i]? with
    | some (some (.ow (.lst xs))) => .ok (.int xs.length) m
    | some (some (.ow (.dct xs))) => .ok (.int xs.length) m
    | _ => .stuck
  | .exA i f, σ, m => match σ[i]? with
    | some (some (.ex e)) => if f = excAttr e.cls then liftO e.arg m else .stuck
    | _ => .stuck
  | .slc a lo hi, σ, m => (evE g a σ m).bind fun x m => (evO g lo σ m).bind fun l m => (evO g hi σ m).bind fun h m => liftO (slcD x l h m) m
  | .call k args kws, σ, m => (evEs g args σ m).bind fun ds m => (evEs g kws σ m).bind fun es m => callD (g.fn[k]?) args.length kws.length [] ds es m
  | .meth mi nm o args kws, σ, m => (evE g o σ m).bind fun x m => match methD g mi nm x m with
    | some f => (evEs g args σ m).bind fun ds m => (evEs g kws σ m).bind fun es m => callD (some f) args.length kws.length [x] ds es m
    | none => .stuck
  | .bi b args, σ, m => (evEs g args σ m).bind fun ds m => liftO (biD b ds m) m
  | .inst a tys, σ, m => (evE g a σ m).bind fun x m => match tyN m x with
    | some k => .ok (.bl (tys.any (kdIs k))) m
    | none => .stuck
  | .lcomp elt t it cs, σ, m => (evIt g it σ m).bind fun xs m => if xs.length ≤ maxLen then (compL (fun d m => match asgT t d (wipeS σ t.slots) with
      | some σ => (evC g cs σ m).bind fun b m => if b then (evE g elt σ m).bind fun y m => .ok (some y) m else .ok none m
      | none => .stuck) xs m).bind fun ys m => .ok (.lst ys) m else .stuck
  | .dcomp k v t it cs, σ, m => (evIt g it σ m).bind fun xs m => if xs.length ≤ maxLen then (compL (fun d m => match asgT t d (wipeS σ t.slots) with
      | some σ => (evC g cs σ m).bind fun b m => if b then (evE g k σ m).bind fun x m => (evE g v σ m).bind fun y m => (match keyD x with | some _ => .ok (some (.tup [x, y])) m | none => .stuck) else .ok none m
      | none => .stuck) xs m).bind fun ys m => .ok (.dct (dctOf ys)) m else .stuck
noncomputable def evEs (g : G) : List E → Sl → MS → Res (List D)
  | [], _, m => .ok [] m
  | e :: es, σ, m => (evE g e σ m).bind fun x m => (liftO (splD e x m) m).bind fun ys m => (evEs g es σ m).bind fun r m => .ok (ys ++ r) m
noncomputable def evO (g : G) : Option E → Sl → MS → Res (Option Int)
  | none, _, m => .ok none m
  | some e, σ, m => (evE g e σ m).bind fun x m => match x with
    | .int i => .ok (some i) m
    | _ => .stuck
noncomputable def evC (g : G) : List E → Sl → MS → Res Bool
  | [], _, m => .ok true m
  | e :: es, σ, m => (evE g e σ m).bind fun x m => match x with
    | .bl true => evC g es σ m
    | .bl false => .ok false m
    | _ => .stuck
noncomputable def evIt (g : G) : It → Sl → MS → Res (List D)
  | .seq a, σ, m => (evE g a σ m).bind fun x m => liftO (itemsD x) m
  | .rng a, σ, m => (evE g a σ m).bind fun x m => match x with
    | .int i => liftO (rngD 0 i) m
    | _ => .stuck
  | .rng2 a b, σ, m => (evE g a σ m).bind fun x m => (evE g b σ m).bind fun y m => match x, y with
    | .int i, .int j => liftO (rngD i j) m
    | _, _ => .stuck
  | .zip a b, σ, m => (evE g a σ m).bind fun x m => (evE g b σ m).bind fun y m => match x, y with
    | .lst xs, .lst ys => .ok ((xs.zip ys).map fun p => .tup [p.1, p.2]) m
    | _, _ => .stuck
  | .enum a, σ, m => (evE g a σ m).bind fun x m => match x with
    | .lst xs => .ok (xs.zipIdx.map fun p => .tup [.int p.2, p.1]) m
    | _ => .stuck
  | .items a, σ, m => (evE g a σ m).bind fun x m => match x with
    | .dct kvs => .ok (kvs.map fun kv => .tup [keyOf kv.1, kv.2]) m
    | _ => .stuck
  | .vals a, σ, m => (evE g a σ m).bind fun x m => match x with
    | .dct kvs => .ok (kvs.map (·.2)) m
    | _ => .stuck
end

/-! ### statements -/
inductive Out where
  | nx (σ : Sl) (m : MS) | ret (d : D) (m : MS) | brk (σ : Sl) (m : MS) | ct (σ : Sl) (m : MS) | exc (e : Exc) (σ : Sl) (m : MS) | stuck
@[simp] def Res.out {α : Type} (σ : Sl) : Res α → (α → MS → Out) → Out
  | .ok a m, f => f a m
  | .exc e m, _ => .exc e σ m
  | .stuck, _ => .stuck
def nxO (o : Option Sl) (m : MS) : Out := match o with
  | some σ => .nx σ m
  | none => .stuck
def forL (f : D → Sl → MS → Out) : List D → Sl → MS → Out
  | [], σ, m => .nx σ m
  | x :: xs, σ, m => match f x σ m with
    | .nx σ m => forL f xs σ m
    | .ct σ m => forL f xs σ m
    | .brk σ m => .nx σ m
    | o => o
def whlN (c : Sl → MS → Res D) (b : Sl → MS → Out) : Nat → Sl → MS → Out
  | 0, _, _ => .stuck
  | n + 1, σ, m => (c σ m).out σ fun x m => match x with
    | .bl true => match b σ m with
      | .nx σ m => whlN c b n σ m
      | .ct σ m => whlN c b n σ m
      | .brk σ m => .nx σ m
      | o => o
    | .bl false => .nx σ m
    | _ => .stuck
open Classical in
noncomputable def whl (c : Sl → MS → Res D) (b : Sl → MS → Out) (σ : Sl) (m : MS) : Out :=
  if h : ∃ n, whlN c b n σ m ≠ .stuck then whlN c b h.choose σ m else .stuck
def putA (f : Str) (v : D) : List (Str × D) → List (Str × D)
  | [] => [(f, v)]
  | (g, x) :: r => if g = f then (g, v) :: r else (g, x) :: putA f v r
/-- a store by key or place -/
def setD (c : MC) (k v : D) : Option MC :=
  match c, k with
  | .dct kvs, k => if kvs.length < maxLen then (keyD k).map fun k => .dct (put kvs k v) else none
  | .lst xs, .int i => (ixN xs.length i).map fun j => .lst (xs.set j v)
  | _, _ => none
def setL (c : MC) (k v : D) : Option MC :=
  match c, k with
  | .lst xs, .int i => (ixN xs.length i).map fun j => .lst (xs.set j v)
  | _, _ => none
def appD (c : MC) (v : D) : Option MC :=
  match c with
  | .lst xs => if xs.length < maxLen then some (.lst (xs ++ [v])) else none
  | _ => none
def attD (g : G) (c : MC) (f : Str) (v : D) : Option MC :=
  match c with
  | .ins k fs => if fs.length < 900 ∧ (k, f) ∈ g.fld then some (.ins k (putA f v fs)) else none
  | _ => none
def frzD : MC → Option D
  | .lst xs => some (.lst xs)
  | .dct kvs => some (.dct kvs)
  | .ins c fs => some (.obj c fs)
  | .dead => none
/-- a change of what the slot i owns -/
def ownS (i : Nat) (σ : Sl) (m : MS) (f : MC → Option MC) : Out := match σ[i]? with
  | some (some (.ow c)) => match f c with
    | some c => .nx (σ.set i (some (.ow c))) m
    | none => .stuck
  | _ => .stuck
/-- a change of the cell that a value names -/
def cellS (o : D) (σ : Sl) (m : MS) (f : MC → Option MC) : Out := match o with
  | .ref i => match m[i]? with
    | some c => match f c with
      | some c => .nx σ (m.set i c)
      | none => .stuck
    | none => .stuck
  | _ => .stuck
/-- the slots behind a suite: the error is forgotten -/
def clrX (s : Sl) : Sl := s.map fun x => match x with
  | some (.ex _) => none
  | x => x
/-- a suite's end: an error within it is not told -/
def sufX (i : Option Nat) : Out → Out
  | .nx σ m => .nx (match i with | some i => (clrX σ).set i none | none => σ) m
  | .brk σ m => .brk (match i with | some i => (clrX σ).set i none | none => σ) m
  | .ct σ m => .ct (match i with | some i => (clrX σ).set i none | none => σ) m
  | .ret d m => .ret d m
  | _ => .stuck
/-- the own errors -/
def errNames : List Str := ["ByZero", "BadNumber", "BadText", "BadRule", "BadUse", "BadTable", "BadPrices", "BadBox", "BadAmount", "BadShare", "BadGood", "BadName", "BadCount", "BadDeed", "NoGood", "NoAccount", "InUse", "NoCash", "TooMuch", "NotSound", "IsSound", "Short", "BadLine", "NothingToUndo", "NothingToRedo", "BadSight", "Clash"]
/-- whether an except clause that names a class takes an error -/
def takesC (c e : Str) : Bool := decide (c = e) || decide (c = "LoanError")
def takesX (c : Str) (e : Exc) : Bool := takesC c e.cls
mutual
noncomputable def evS (g : G) : S → Sl → MS → Out
  | .expr e, σ, m => (evE g e σ m).out σ fun _ m => .nx σ m
  | .asg t e, σ, m => (evE g e σ m).out σ fun d m => nxO (asgT t d σ) m
  | .newL i xs, σ, m => (evEs g xs σ m).out σ fun ds m => if ds.length ≤ maxLen then .nx (σ.set i (some (.ow (.lst ds)))) m else .stuck
  | .newD i, σ, m => .nx (σ.set i (some (.ow (.dct [])))) m
  | .setV i k v, σ, m => (evE g v σ m).out σ fun d m => (evE g k σ m).out σ fun x m => ownS i σ m fun c => setD c x d
  | .appV i e, σ, m => match σ[i]? with
    | some (some (.ow (.lst xs))) => (evE g e σ m).out σ fun d m => if xs.length < maxLen then .nx (σ.set i (some (.ow (.lst (xs ++ [d]))))) m else .stuck
    | _ => .stuck
  | .atV i f e, σ, m => (evE g e σ m).out σ fun d m => ownS i σ m fun c => attD g c f d
  | .setR o k v, σ, m => (evE g v σ m).out σ fun d m => (evE g o σ m).out σ fun x m => (evE g k σ m).out σ fun y m => cellS x σ m fun c => setL c y d
  | .appR o e, σ, m => (evE g o σ m).out σ fun x m => (evE g e σ m).out σ fun d m => cellS x σ m fun c => appD c d
  | .atR o f e, σ, m => (evE g e σ m).out σ fun d m => (evE g o σ m).out σ fun x m => cellS x σ m fun c => attD g c f d
  | .frz i, σ, m => match σ[i]? with
    | some (some (.ow c)) => match frzD c with
      | some d => .nx (σ.set i (some (.sh d))) m
      | none => .stuck
    | _ => .stuck
  | .ret e, σ, m => (evE g e σ m).out σ fun d m => .ret d m
  | .retN, _, m => .ret .non m
  | .retO i, σ, m => match σ[i]? with
    | some (some (.ow (.lst xs))) => .ret (.lst xs) m
    | _ => .stuck
  | .ite c a b, σ, m => (evE g c σ m).out σ fun x m => match x with
    | .bl true => evSs g a σ m
    | .bl false => evSs g b σ m
    | _ => .stuck
  | .for_ t it body, σ, m => (evIt g it σ m).out σ fun xs m => forL (fun d σ m => match asgT t d σ with
      | some σ => evSs g body σ m
      | none => .stuck) xs σ m
  | .whl c body, σ, m => whl (fun σ m => evE g c σ m) (fun σ m => evSs g body σ m) σ m
  | .brk, σ, m => .brk σ m
  | .cont, σ, m => .ct σ m
  | .pass, σ, m => .nx σ m
  | .raise c args, σ, m => (evEs g args σ m).out σ fun ds m => if ds.length = args.length then (match ds with
    | [] => .exc ⟨c, none⟩ σ m
    | [d] => .exc ⟨c, some d⟩ σ m
    | _ => .stuck) else .stuck
  | .try_ body hs, σ, m => match evSs g body σ m with
    | .exc e σ m => evH g hs e σ m
    | o => o
noncomputable def evSs (g : G) : List S → Sl → MS → Out
  | [], σ, m => .nx σ m
  | s :: ss, σ, m => match evS g s σ m with
    | .nx σ m => evSs g ss σ m
    | o => o
noncomputable def evH (g : G) : List (Str × Option Nat × List S) → Exc → Sl → MS → Out
  | [], e, σ, m => .exc e σ m
  | h :: hs, e, σ, m => if takesX h.1 e then sufX h.2.1 (evSs g h.2.2 (match h.2.1 with | some i => σ.set i (some (.ex e)) | none => σ) m) else evH g hs e σ m
end

/-- a def of the text: its slots, its parameters, its body -/
structure Fn where
  n : Nat
  ps : Nat
  body : List S
/-- what a def computes -/
noncomputable def evF (g : G) (f : Fn) : Sem := fun args m =>
  if args.length = f.ps then
    match evSs g f.body (args.map (fun d => some (.sh d)) ++ List.replicate (f.n - f.ps) none) m with
    | .ret d m => .ok d m
    | .nx _ m => .ok .non m
    | .exc e _ m => .exc e m
    | _ => .stuck
  else .stuck
/-- what a class whose instances never change makes: its __init__ run on an instance of its own -/
noncomputable def evC0 (g : G) (c : Nat) (f : Fn) : Sem := fun args m =>
  if args.length + 1 = f.ps then
    match evSs g f.body (some (.ow (.ins c [])) :: args.map (fun d => some (.sh d)) ++ List.replicate (f.n - f.ps) none) m with
    | .nx σ m => match σ with
      | some (.ow (.ins c fs)) :: _ => .ok (.obj c fs) m
      | _ => .stuck
    | .exc e _ m => .exc e m
    | _ => .stuck
  else .stuck

end DI
end

section
set_option linter.all false
set_option maxRecDepth 100000
/-! DI.Rel: how deep values, slots and the store stand in the layer's heap. -/
namespace DI
open PySem L2

/-- the names of the classes, by code -/
def clsName : Nat → Str
  | 0 => "Ratio" | 1 => "Rule" | 2 => "Pool" | 3 => "Table" | 4 => "Account" | 5 => "Box" | 6 => "Book" | 7 => "State" | 8 => "House" | 9 => "Trial" | _ => "?"

/-- where the cells stand, and what is known of objects that never change -/
structure Gh where
  as : List Addr
  F : Addr → Option D
  Z : Addr → Option HO
  me : Addr := 0
def RV (γ : Gh) (v : V) : D → Prop
  | .non => v = .non
  | .bl b => v = .bl b
  | .int i => v = .int i
  | .str s => v = .str s
  | .ref i => ∃ a, γ.as[i]? = some a ∧ v = .ref a
  | .tup xs => ∃ a, v = .ref a ∧ γ.F a = some (.tup xs)
  | .lst xs => ∃ a, v = .ref a ∧ γ.F a = some (.lst xs)
  | .dct xs => ∃ a, v = .ref a ∧ γ.F a = some (.dct xs)
  | .obj c fs => ∃ a, v = .ref a ∧ γ.F a = some (.obj c fs)
abbrev RVs (γ : Gh) : List V → List D → Prop := Paired (RV γ)
abbrev RK {κ : Type} (γ : Gh) : List (κ × V) → List (κ × D) → Prop := Paired fun p q => p.1 = q.1 ∧ RV γ p.2 q.2
section
variable (mg : Str → Option Value)
/-- what a known object's place holds -/
def FOk (γ : Gh) (H : Hp) (a : Addr) : D → Prop
  | .tup xs => ∃ vs, Rd H a (.tup vs) ∧ RVs γ vs xs
  | .lst xs => ∃ vs, Rd H a (.lst vs) ∧ RVs γ vs xs
  | .dct kvs => ∃ o kw, H a = some (.frz o (.dK kw)) ∧ RK γ kw kvs
  | .obj c fs => ∃ C dx fw, H a = some (.ins C dx fw) ∧ mg (clsName c) = some (.ref C) ∧ RK γ fw fs
  | _ => False
/-- what a cell's place holds -/
def COk (γ : Gh) (H : Hp) (a : Addr) : MC → Prop
  | .lst xs => ∃ vs, H a = some (.lst vs) ∧ RVs γ vs xs
  | .dct kvs => ∃ kw, H a = some (.dK kw) ∧ RK γ kw kvs
  | .ins c fs => ∃ C dx fw, H a = some (.ins C dx fw) ∧ mg (clsName c) = some (.ref C) ∧ RK γ fw fs
  | .dead => ∃ o, H a = some o
structure HR (γ : Gh) (m : List MC) (H : Hp) : Prop where
  fr : ∀ a d, γ.F a = some d → FOk mg γ H a d
  len : γ.as.length = m.length
  nd : γ.as.Nodup
  ce : ∀ (i : Nat) (c : MC) (a : Addr), m[i]? = some c → γ.as[i]? = some a → COk mg γ H a c ∧ γ.F a = none
  zf : ∀ a d, γ.F a = some d → ∃ o, γ.Z a = some o
  zh : ∀ a o, γ.Z a = some o → H a = some o ∧ a ∉ γ.as
  zn : ∀ a, γ.F a = none → γ.Z a = none
/-- from one state to a later one -/
structure Grow (γ : Gh) (H : Hp) (γ' : Gh) (H' : Hp) : Prop where
  as : ∃ more, γ'.as = γ.as ++ more ∧ ∀ a ∈ more, H a = none
  F : ∀ a d, γ.F a = some d → γ'.F a = some d
  Fn : ∀ a d, γ'.F a = some d → γ.F a = some d ∨ H a = none
  fr : ∀ b o, H b = some o → b ∉ γ.as → H' b = some o
  th : ∀ b o, H b = some o → ∃ o', H' b = some o'
  Z : ∀ a o, γ.Z a = some o → γ'.Z a = some o
end
section
variable {mg : Str → Option Value} {γ γ' γ1 γ2 : Gh} {H H' H1 H2 : Hp} {m m' : MS}
theorem Grow.refl : Grow γ H γ H := ⟨⟨[], by simp, by simp⟩, fun _ _ h => h, fun _ _ h => .inl h, fun _ _ h _ => h, fun _ o h => ⟨o, h⟩, fun _ _ h => h⟩
theorem Grow.none_back (g : Grow γ H γ' H') {a : Addr} (h : H' a = none) : H a = none := by
  cases q : H a with
  | none => rfl
  | some o =>
    obtain ⟨o', e⟩ := g.th a o q
    rw [h] at e
    cases e
theorem Grow.trans (g : Grow γ H γ1 H1) (k : Grow γ1 H1 γ2 H2) : Grow γ H γ2 H2 := by
  obtain ⟨l1, e1, n1⟩ := g.as
  obtain ⟨l2, e2, n2⟩ := k.as
  refine ⟨⟨l1 ++ l2, by rw [e2, e1, List.append_assoc], fun a ha => ?_⟩, fun a d h => k.F a d (g.F a d h), fun a d h => ?_, fun b o h hn => ?_, fun b o h => ?_, fun a o h => k.Z a o (g.Z a o h)⟩
  · rcases List.mem_append.mp ha with h | h
    · exact n1 a h
    · exact g.none_back (n2 a h)
  · rcases k.Fn a d h with h | h
    · exact g.Fn a d h
    · exact .inr (g.none_back h)
  · refine k.fr b o (g.fr b o h hn) fun z => ?_
    rw [e1] at z
    rcases List.mem_append.mp z with z | z
    · exact hn z
    · rw [n1 b z] at h
      cases h
  · obtain ⟨o1, h1⟩ := g.th b o h
    exact k.th b o1 h1
theorem Grow.ix (g : Grow γ H γ' H') {i : Nat} {a : Addr} (h : γ.as[i]? = some a) : γ'.as[i]? = some a := by
  obtain ⟨l, e, _⟩ := g.as
  rw [e, List.getElem?_append_left (List.getElem?_eq_some_iff.mp h).1]
  exact h
theorem Grow.nas (g : Grow γ H γ' H') {b : Addr} {o : HO} (h : H b = some o) (hn : b ∉ γ.as) : b ∉ γ'.as := by
  obtain ⟨l, e, n⟩ := g.as
  rw [e]
  intro z
  rcases List.mem_append.mp z with z | z
  · exact hn z
  · rw [n b z] at h
    cases h
theorem Grow.nF (g : Grow γ H γ' H') {b : Addr} {o : HO} (h : H b = some o) (hn : γ.F b = none) : γ'.F b = none := by
  cases q : γ'.F b with
  | none => rfl
  | some d =>
    rcases g.Fn b d q with z | z
    · rw [hn] at z
      cases z
    · rw [h] at z
      cases z
theorem RV.mono (g : Grow γ H γ' H') {v : V} {d : D} (r : RV γ v d) : RV γ' v d := by
  cases d with
  | non => exact r
  | bl b => exact r
  | int i => exact r
  | str s => exact r
  | ref i =>
    obtain ⟨a, h, e⟩ := r
    exact ⟨a, g.ix h, e⟩
  | tup xs => obtain ⟨a, e, h⟩ := r; exact ⟨a, e, g.F _ _ h⟩
  | lst xs => obtain ⟨a, e, h⟩ := r; exact ⟨a, e, g.F _ _ h⟩
  | dct xs => obtain ⟨a, e, h⟩ := r; exact ⟨a, e, g.F _ _ h⟩
  | obj c fs => obtain ⟨a, e, h⟩ := r; exact ⟨a, e, g.F _ _ h⟩
theorem RVs.mono (g : Grow γ H γ' H') {vs : List V} {ds : List D} (r : RVs γ vs ds) : RVs γ' vs ds := Paired.mapP r fun _ _ h => RV.mono g h
theorem RK.mono {κ : Type} (g : Grow γ H γ' H') {vs : List (κ × V)} {ds : List (κ × D)} (r : RK γ vs ds) : RK γ' vs ds := Paired.mapP r fun _ _ h => ⟨h.1, RV.mono g h.2⟩
theorem RVs.get {d : D} : ∀ {vs : List V} {ds : List D} {i : Nat}, RVs γ vs ds → ds[i]? = some d → ∃ v, vs[i]? = some v ∧ RV γ v d
  | _, _, _, .nil, h => by simp at h
  | _, _, 0, .cons r t, h => by simp at h; subst h; exact ⟨_, rfl, r⟩
  | _, _, i + 1, .cons r t, h => by
    obtain ⟨v, e, r'⟩ := RVs.get (i := i) t (by simpa using h)
    exact ⟨v, by simpa using e, r'⟩
theorem RVs.append {vs ws : List V} {ds es : List D} (r : RVs γ vs ds) (q : RVs γ ws es) : RVs γ (vs ++ ws) (ds ++ es) := by
  induction r with
  | nil => exact q
  | cons h t ih => exact .cons h ih

/-- a place that holds no cell stays -/
theorem Rd.grow (g : Grow γ H γ' H') {a : Addr} {u : HO} (h : Rd H a u) (hn : a ∉ γ.as) : Rd H' a u := by
  rcases h with h | ⟨o, h⟩
  · exact .inl (g.fr _ _ h hn)
  · exact .inr ⟨o, g.fr _ _ h hn⟩
theorem FOk.grow (g : Grow γ H γ' H') {a : Addr} {d : D} (h : FOk mg γ H a d) (hn : a ∉ γ.as) : FOk mg γ' H' a d := by
  cases d with
  | tup xs => obtain ⟨vs, q, r⟩ := h; exact ⟨vs, Rd.grow g q hn, r.mono g⟩
  | lst xs => obtain ⟨vs, q, r⟩ := h; exact ⟨vs, Rd.grow g q hn, r.mono g⟩
  | dct xs => obtain ⟨o, vs, q, r⟩ := h; exact ⟨o, vs, g.fr _ _ q hn, r.mono g⟩
  | obj c fs => obtain ⟨C, dx, fw, q, e, r⟩ := h; exact ⟨C, dx, fw, g.fr _ _ q hn, e, r.mono g⟩
  | non => exact h
  | bl b => exact h
  | int i => exact h
  | str s => exact h
  | ref i => exact h
theorem HR.nas (h : HR mg γ m H) {a : Addr} {d : D} (e : γ.F a = some d) : a ∉ γ.as := fun z => by
  obtain ⟨i, hi, q⟩ := List.mem_iff_getElem.mp z
  have hl : i < m.length := by rw [← h.len]; exact hi
  have := (h.ce i m[i] a (List.getElem?_eq_getElem hl) (by rw [List.getElem?_eq_getElem hi, q])).2
  rw [e] at this
  cases this
theorem HR.cell (h : HR mg γ m H) {i : Nat} {c : MC} {v : V} (e : m[i]? = some c) (r : RV γ v (.ref i)) : ∃ a, v = .ref a ∧ γ.as[i]? = some a ∧ COk mg γ H a c := by
  obtain ⟨a, ha, rfl⟩ := r
  exact ⟨a, rfl, ha, (h.ce i c a e ha).1⟩

/-- one more object is known -/
def Gh.add (γ : Gh) (p : Addr) (d : D) (o : HO) : Gh := ⟨γ.as, fun a => if a = p then some d else γ.F a, fun a => if a = p then some o else γ.Z a, γ.me⟩
theorem Gh.add_same {p : Addr} {d : D} {o : HO} : (γ.add p d o).F p = some d := if_pos rfl
theorem Gh.add_ne {p a : Addr} {d : D} {o : HO} (h : a ≠ p) : (γ.add p d o).F a = γ.F a := if_neg h
theorem HR.noZ (h : HR mg γ m H) {p : Addr} (hp : H p = none) : γ.Z p = none := by
  cases q : γ.Z p with
  | none => rfl
  | some o =>
    have e := (h.zh p o q).1
    rw [hp] at e
    cases e
theorem rd_some {a : Addr} {u : HO} (r : Rd H a u) : ∃ o, H a = some o := by
  rcases r with r | ⟨o, r⟩
  · exact ⟨_, r⟩
  · exact ⟨_, r⟩
theorem HR.there (h : HR mg γ m H) {a : Addr} {d : D} (e : γ.F a = some d) : ∃ o, H a = some o := by
  have q := h.fr a d e
  cases d with
  | tup xs => obtain ⟨vs, q, r⟩ := q; exact rd_some q
  | lst xs => obtain ⟨vs, q, r⟩ := q; exact rd_some q
  | dct xs => obtain ⟨o, vs, q, r⟩ := q; exact ⟨_, q⟩
  | obj c fs => obtain ⟨C, dx, fw, q, e, r⟩ := q; exact ⟨_, q⟩
  | non => exact q.elim
  | bl b => exact q.elim
  | int i => exact q.elim
  | str s => exact q.elim
  | ref i => exact q.elim
theorem HR.cells (h : HR mg γ m H) {a : Addr} (e : a ∈ γ.as) : ∃ o, H a = some o := by
  obtain ⟨i, hi, q⟩ := List.mem_iff_getElem.mp e
  have hl : i < m.length := by rw [← h.len]; exact hi
  have c := (h.ce i m[i] a (List.getElem?_eq_getElem hl) (by rw [List.getElem?_eq_getElem hi, q])).1
  generalize m[i] = k at c
  cases k with
  | lst xs => obtain ⟨vs, q, _⟩ := c; exact ⟨_, q⟩
  | dct xs => obtain ⟨vs, q, _⟩ := c; exact ⟨_, q⟩
  | ins c fs => obtain ⟨_, _, _, q, _⟩ := c; exact ⟨_, q⟩
  | dead => exact c
theorem HR.noF (h : HR mg γ m H) {p : Addr} (hp : H p = none) : γ.F p = none := by
  cases q : γ.F p with
  | none => rfl
  | some d =>
    obtain ⟨o, e⟩ := h.there q
    rw [hp] at e
    cases e
theorem HR.noAs (h : HR mg γ m H) {p : Addr} (hp : H p = none) : p ∉ γ.as := fun z => by
  obtain ⟨o, e⟩ := h.cells z
  rw [hp] at e
  cases e
theorem Grow.add (h : HR mg γ m H) {p : Addr} {d : D} {o : HO} (hp : H p = none) : Grow γ H (γ.add p d o) (upd H p o) := by
  have hF := h.noF hp
  have hZ := h.noZ hp
  refine ⟨⟨[], by simp [Gh.add], by simp⟩, fun a e q => ?_, fun a e q => ?_, fun b u q _ => ?_, fun b u q => ?_, fun a u q => by
    show (if a = p then some o else γ.Z a) = some u
    rw [if_neg (fun z => by rw [z, hZ] at q; cases q)]; exact q⟩
  · by_cases z : a = p
    · rw [z, hF] at q; cases q
    · rw [Gh.add_ne z]; exact q
  · by_cases z : a = p
    · exact .inr (by rw [z]; exact hp)
    · rw [Gh.add_ne z] at q; exact .inl q
  · rw [upd_ne (ne_of_none q hp)]; exact q
  · exact ⟨u, by rw [upd_ne (ne_of_none q hp)]; exact q⟩
theorem COk.grow (g : Grow γ H γ' H') {a : Addr} {c : MC} (h : COk mg γ H a c) (e : H' a = H a) : COk mg γ' H' a c := by
  cases c with
  | lst xs => obtain ⟨vs, q, r⟩ := h; exact ⟨vs, e.trans q, r.mono g⟩
  | dct xs => obtain ⟨vs, q, r⟩ := h; exact ⟨vs, e.trans q, r.mono g⟩
  | ins c fs => obtain ⟨C, dx, fw, q, k, r⟩ := h; exact ⟨C, dx, fw, e.trans q, k, r.mono g⟩
  | dead => obtain ⟨o, q⟩ := h; exact ⟨o, e.trans q⟩
theorem HR.add (h : HR mg γ m H) {p : Addr} {d : D} {o : HO} (hp : H p = none) (hf : FOk mg (γ.add p d o) (upd H p o) p d) : HR mg (γ.add p d o) m (upd H p o) := by
  have g : Grow γ H (γ.add p d o) (upd H p o) := Grow.add h hp
  refine ⟨fun a e q => ?_, h.len, h.nd, fun i c a e1 e2 => ?_, fun a e q => ?_, fun a u q => ?_, fun a q => ?_⟩
  · by_cases z : a = p
    · rw [z, Gh.add_same] at q
      cases q
      rw [z]
      exact hf
    · rw [Gh.add_ne z] at q
      exact (h.fr a e q).grow g (h.nas q)
  · obtain ⟨h1, h2⟩ := h.ce i c a e1 e2
    have ne : a ≠ p := fun z => h.noAs hp (z ▸ List.mem_of_getElem? e2)
    exact ⟨h1.grow g (upd_ne ne), by rw [Gh.add_ne ne]; exact h2⟩
  · show ∃ u, (if a = p then some o else γ.Z a) = some u
    by_cases z : a = p
    · rw [if_pos z]; exact ⟨o, rfl⟩
    · rw [Gh.add_ne z] at q; rw [if_neg z]; exact h.zf a e q
  · have q' : (if a = p then some o else γ.Z a) = some u := q
    by_cases z : a = p
    · rw [if_pos z] at q'; cases q'; rw [z]; exact ⟨upd_same, h.noAs hp⟩
    · rw [if_neg z] at q'; rw [upd_ne z]; exact h.zh a u q'
  · have q' : (if a = p then some d else γ.F a) = none := q
    show (if a = p then some o else γ.Z a) = none
    by_cases z : a = p
    · rw [if_pos z] at q'; cases q'
    · rw [if_neg z] at q' ⊢; exact h.zn a q'
/-- one more object, not known -/
theorem HR.obs (h : HR mg γ m H) {p : Addr} {o : HO} (hp : H p = none) : HR mg γ m (upd H p o) ∧ Grow γ H γ (upd H p o) := by
  have g : Grow γ H γ (upd H p o) := by
    refine ⟨⟨[], by simp, by simp⟩, fun _ _ q => q, fun _ _ q => .inl q, fun b u q _ => ?_, fun b u q => ?_, fun _ _ q => q⟩
    · rw [upd_ne (ne_of_none q hp)]; exact q
    · exact ⟨u, by rw [upd_ne (ne_of_none q hp)]; exact q⟩
  refine ⟨⟨fun a e q => (h.fr a e q).grow g (h.nas q), h.len, h.nd, fun i c a e1 e2 => ?_, h.zf, fun a u q => ⟨by rw [upd_ne (ne_of_none (h.zh a u q).1 hp)]; exact (h.zh a u q).1, (h.zh a u q).2⟩, h.zn⟩, g⟩
  obtain ⟨h1, h2⟩ := h.ce i c a e1 e2
  have ne : a ≠ p := fun z => h.noAs hp (z ▸ List.mem_of_getElem? e2)
  exact ⟨h1.grow g (upd_ne ne), h2⟩
/-- one more cell -/
def Gh.cell (γ : Gh) (p : Addr) : Gh := ⟨γ.as ++ [p], γ.F, γ.Z, γ.me⟩
theorem Grow.cell {p : Addr} {o : HO} (hp : H p = none) : Grow γ H (γ.cell p) (upd H p o) := by
  refine ⟨⟨[p], rfl, fun a ha => by rw [List.mem_singleton.mp ha]; exact hp⟩, fun _ _ q => q, fun _ _ q => .inl q, fun b u q _ => ?_, fun b u q => ?_, fun _ _ q => q⟩
  · rw [upd_ne (ne_of_none q hp)]; exact q
  · exact ⟨u, by rw [upd_ne (ne_of_none q hp)]; exact q⟩
theorem HR.cell_new (h : HR mg γ m H) {p : Addr} {c : MC} {o : HO} (hp : H p = none) (hc : COk mg (γ.cell p) (upd H p o) p c) : HR mg (γ.cell p) (m ++ [c]) (upd H p o) := by
  have g : Grow γ H (γ.cell p) (upd H p o) := Grow.cell hp
  have hn := h.noAs hp
  refine ⟨fun a e q => (h.fr a e q).grow g (h.nas q), by simp [Gh.cell, h.len], List.nodup_append.mpr ⟨h.nd, by simp, fun a ha b hb => by rw [List.mem_singleton.mp hb]; exact fun z => hn (z ▸ ha)⟩, fun i k a e1 e2 => ?_, h.zf, fun a u q => ⟨by rw [upd_ne (ne_of_none (h.zh a u q).1 hp)]; exact (h.zh a u q).1, fun z => (List.mem_append.mp z).elim (h.zh a u q).2 fun z => by rw [List.mem_singleton.mp z] at q; have := (h.zh _ u q).1; rw [hp] at this; cases this⟩, h.zn⟩
  by_cases hi : i < m.length
  · rw [List.getElem?_append_left hi] at e1
    have e2' : γ.as[i]? = some a := by
      have : (γ.as ++ [p])[i]? = some a := e2
      rw [List.getElem?_append_left (by rw [h.len]; exact hi)] at this
      exact this
    obtain ⟨h1, h2⟩ := h.ce i k a e1 e2'
    have ne : a ≠ p := fun z => hn (z ▸ List.mem_of_getElem? e2')
    exact ⟨h1.grow g (upd_ne ne), h2⟩
  · have hl := (List.getElem?_eq_some_iff.mp e1).1
    simp at hl
    have hi : i = m.length := by omega
    subst hi
    have e2' : (γ.as ++ [p])[m.length]? = some a := e2
    rw [← h.len] at e2'
    simp at e1 e2'
    subst e1 e2'
    exact ⟨hc, h.noF hp⟩
/-- a cell is changed -/
theorem HR.set (h : HR mg γ m H) {i : Nat} {a : Addr} {c : MC} {o : HO} (ha : γ.as[i]? = some a) (hc : ∀ H', H' a = some o → COk mg γ H' a c) (hm : i < m.length) : HR mg γ (m.set i c) (upd H a o) ∧ Grow γ H γ (upd H a o) := by
  have hma := List.mem_of_getElem? ha
  obtain ⟨oa, hoa⟩ := h.cells hma
  have g : Grow γ H γ (upd H a o) := by
    refine ⟨⟨[], by simp, by simp⟩, fun _ _ q => q, fun _ _ q => .inl q, fun b u q hn => ?_, fun b u q => ?_, fun _ _ q => q⟩
    · rw [upd_ne (fun z : b = a => hn (by rw [z]; exact hma))]; exact q
    · by_cases z : b = a
      · exact ⟨o, by rw [z, upd_same]⟩
      · exact ⟨u, by rw [upd_ne z]; exact q⟩
  refine ⟨⟨fun b e q => (h.fr b e q).grow g (h.nas q), by simp [h.len], h.nd, fun j k b e1 e2 => ?_, h.zf, fun b u q => ⟨by rw [upd_ne (fun z : b = a => (h.zh b u q).2 (by rw [z]; exact hma))]; exact (h.zh b u q).1, (h.zh b u q).2⟩, h.zn⟩, g⟩
  by_cases hj : j = i
  · subst hj
    rw [ha] at e2
    cases e2
    rw [List.getElem?_set_self hm] at e1
    cases e1
    exact ⟨hc _ upd_same, (h.ce j m[j] a (List.getElem?_eq_getElem hm) ha).2⟩
  · rw [List.getElem?_set_ne (Ne.symm hj)] at e1
    obtain ⟨h1, h2⟩ := h.ce j k b e1 e2
    have ne : b ≠ a := fun z => by
      obtain ⟨h1, q1⟩ := List.getElem?_eq_some_iff.mp e2
      obtain ⟨h2, q2⟩ := List.getElem?_eq_some_iff.mp ha
      exact hj ((List.getElem_inj h.nd).mp (q1.trans (z.trans q2.symm)))
    exact ⟨h1.grow g (upd_ne ne), h2⟩
theorem FOk.at {a : Addr} {d : D} (h : FOk mg γ H a d) (e : H' a = H a) : FOk mg γ H' a d := by
  have rd : ∀ {u : HO}, Rd H a u → Rd H' a u := fun {u} r => by
    rcases r with r | ⟨o, r⟩
    · exact .inl (e.trans r)
    · exact .inr ⟨o, e.trans r⟩
  cases d with
  | tup xs => obtain ⟨vs, q, r⟩ := h; exact ⟨vs, rd q, r⟩
  | lst xs => obtain ⟨vs, q, r⟩ := h; exact ⟨vs, rd q, r⟩
  | dct xs => obtain ⟨o, vs, q, r⟩ := h; exact ⟨o, vs, e.trans q, r⟩
  | obj c fs => obtain ⟨C, dx, fw, q, k, r⟩ := h; exact ⟨C, dx, fw, e.trans q, k, r⟩
  | non => exact h
  | bl b => exact h
  | int i => exact h
  | str s => exact h
  | ref i => exact h
theorem COk.at {a : Addr} {c : MC} (h : COk mg γ H a c) (e : H' a = H a) : COk mg γ H' a c := by
  cases c with
  | lst xs => obtain ⟨vs, q, r⟩ := h; exact ⟨vs, e.trans q, r⟩
  | dct xs => obtain ⟨vs, q, r⟩ := h; exact ⟨vs, e.trans q, r⟩
  | ins c fs => obtain ⟨C, dx, fw, q, k, r⟩ := h; exact ⟨C, dx, fw, e.trans q, k, r⟩
  | dead => obtain ⟨o, q⟩ := h; exact ⟨o, e.trans q⟩
/-- a change where nothing is known -/
theorem HR.own (h : HR mg γ m H) {a : Addr} {o : HO} (h1 : a ∉ γ.as) (h2 : γ.F a = none) : HR mg γ m (upd H a o) := by
  have ne : ∀ b d, γ.F b = some d → b ≠ a := fun b d e z => by rw [z, h2] at e; cases e
  refine ⟨fun b d e => (h.fr b d e).at (upd_ne (ne b d e)), h.len, h.nd, fun i c b e1 e2 => ?_, h.zf, fun b u e => ?_, h.zn⟩
  · obtain ⟨k1, k2⟩ := h.ce i c b e1 e2
    exact ⟨k1.at (upd_ne fun z => h1 (z ▸ List.mem_of_getElem? e2)), k2⟩
  · obtain ⟨k1, k2⟩ := h.zh b u e
    refine ⟨?_, k2⟩
    rw [upd_ne (fun z => by rw [z, h.zn a h2] at e; cases e)]
    exact k1
/-- a thing is known from now on -/
theorem HR.know (h : HR mg γ m H) {a : Addr} {d : D} {o : HO} (h1 : a ∉ γ.as) (h2 : γ.F a = none) (h3 : H a = some o) (h4 : FOk mg (γ.add a d o) H a d) (h5 : ∀ v d', RV γ v d' → RV (γ.add a d o) v d') : HR mg (γ.add a d o) m H := by
  have mv : ∀ {b : Addr} {e : D}, FOk mg γ H b e → FOk mg (γ.add a d o) H b e := fun {b e} q => by
    have vs : ∀ {us : List V} {es : List D}, RVs γ us es → RVs (γ.add a d o) us es := fun r => Paired.mapP r h5
    have rk : ∀ {κ : Type} {us : List (κ × V)} {es : List (κ × D)}, RK γ us es → RK (γ.add a d o) us es := fun r => Paired.mapP r fun _ _ x => ⟨x.1, h5 _ _ x.2⟩
    cases e with
    | tup xs => obtain ⟨us, q, r⟩ := q; exact ⟨us, q, vs r⟩
    | lst xs => obtain ⟨us, q, r⟩ := q; exact ⟨us, q, vs r⟩
    | dct xs => obtain ⟨o, us, q, r⟩ := q; exact ⟨o, us, q, rk r⟩
    | obj c fs => obtain ⟨C, dx, fw, q, k, r⟩ := q; exact ⟨C, dx, fw, q, k, rk r⟩
    | non => exact q
    | bl b => exact q
    | int i => exact q
    | str s => exact q
    | ref i => exact q
  have mc : ∀ {b : Addr} {c : MC}, COk mg γ H b c → COk mg (γ.add a d o) H b c := fun {b c} q => by
    cases c with
    | lst xs => obtain ⟨us, q, r⟩ := q; exact ⟨us, q, Paired.mapP r h5⟩
    | dct xs => obtain ⟨us, q, r⟩ := q; exact ⟨us, q, Paired.mapP r fun _ _ x => ⟨x.1, h5 _ _ x.2⟩⟩
    | ins c fs => obtain ⟨C, dx, fw, q, k, r⟩ := q; exact ⟨C, dx, fw, q, k, Paired.mapP r fun _ _ x => ⟨x.1, h5 _ _ x.2⟩⟩
    | dead => exact q
  refine ⟨fun b e q => ?_, h.len, h.nd, fun i c b e1 e2 => ?_, fun b e q => ?_, fun b u q => ?_, fun b q => ?_⟩
  · by_cases z : b = a
    · rw [z, Gh.add_same] at q
      cases q
      rw [z]
      exact h4
    · rw [Gh.add_ne z] at q
      exact mv (h.fr b e q)
  · obtain ⟨k1, k2⟩ := h.ce i c b e1 e2
    have ne : b ≠ a := fun z => h1 (z ▸ List.mem_of_getElem? e2)
    exact ⟨mc k1, by rw [Gh.add_ne ne]; exact k2⟩
  · show ∃ u, (if b = a then some o else γ.Z b) = some u
    by_cases z : b = a
    · rw [if_pos z]; exact ⟨o, rfl⟩
    · rw [Gh.add_ne z] at q; rw [if_neg z]; exact h.zf b e q
  · have q' : (if b = a then some o else γ.Z b) = some u := q
    by_cases z : b = a
    · rw [if_pos z] at q'; cases q'; rw [z]; exact ⟨h3, h1⟩
    · rw [if_neg z] at q'; exact h.zh b u q'
  · have q' : (if b = a then some d else γ.F b) = none := q
    show (if b = a then some o else γ.Z b) = none
    by_cases z : b = a
    · rw [if_pos z] at q'; cases q'
    · rw [if_neg z] at q' ⊢; exact h.zn b q'
theorem RV.know {a : Addr} {d : D} {o : HO} (h2 : γ.F a = none) (v : V) (d' : D) (r : RV γ v d') : RV (γ.add a d o) v d' := by
  have k : ∀ b e, γ.F b = some e → (γ.add a d o).F b = some e := fun b e q => by
    rw [Gh.add_ne (fun z => by rw [z, h2] at q; cases q)]; exact q
  cases d' with
  | non => exact r
  | bl b => exact r
  | int i => exact r
  | str s => exact r
  | ref i => exact r
  | tup xs => obtain ⟨a, e, h⟩ := r; exact ⟨a, e, k _ _ h⟩
  | lst xs => obtain ⟨a, e, h⟩ := r; exact ⟨a, e, k _ _ h⟩
  | dct xs => obtain ⟨a, e, h⟩ := r; exact ⟨a, e, k _ _ h⟩
  | obj c fs => obtain ⟨a, e, h⟩ := r; exact ⟨a, e, k _ _ h⟩
theorem Grow.know {γ0 : Gh} {H0 : Hp} (g : Grow γ0 H0 γ H) (hr : HR mg γ m H) {a : Addr} {d : D} {o : HO} (h2 : γ.F a = none) (h0 : H0 a = none) : Grow γ0 H0 (γ.add a d o) H := by
  refine ⟨g.as, fun b e q => ?_, fun b e q => ?_, g.fr, g.th, fun b u q => ?_⟩
  · have := g.F b e q
    rw [Gh.add_ne (fun z => by rw [z, h2] at this; cases this)]; exact this
  · by_cases z : b = a
    · rw [z]; exact .inr h0
    · rw [Gh.add_ne z] at q; exact g.Fn b e q
  · have := g.Z b u q
    show (if b = a then some o else γ.Z b) = some u
    rw [if_neg (fun z => by rw [z, hr.zn a h2] at this; cases this)]; exact this
end
end DI
end

section
set_option linter.all false
set_option maxRecDepth 100000
set_option maxHeartbeats 1000000
/-! DI.S1: slots; what an expression's meaning says of the layer's reading. -/
namespace DI
open PySem L2

/-- the exception at hand: its address, its class, its dict -/
abbrev XI := Option (Addr × Value × Option Addr)
/-- how an error lies: its class, its dict -/
def ExR (mg : Str → Option Value) (γ : Gh) (H : Hp) (e : Exc) (c : Value) (d : Option Addr) : Prop :=
  ∃ C, mg e.cls = some (.ref C) ∧ c = .ref C ∧ e.cls ∈ errNames ∧ ∀ v, e.arg = some v → ∃ dx w, d = some dx ∧ H dx = some (.xd [(excAttr e.cls, w)]) ∧ RV γ w v ∧ dx ∉ γ.as ∧ γ.F dx = none
def SvR (mg : Str → Option Value) (xi : XI) (γ : Gh) (H : Hp) (v : V) : SV → Prop
  | .sh d => RV γ v d
  | .ow c => ∃ a, v = .ref a ∧ COk mg γ H a c ∧ a ∉ γ.as ∧ γ.F a = none
  | .ex e => ∃ a c d, xi = some (a, c, d) ∧ v = .ref a ∧ ExR mg γ H e c d
structure SlR (mg : Str → Option Value) (xi : XI) (γ : Gh) (H : Hp) (σ : St) (s : List (Option SV)) : Prop where
  len : σ.length = s.length
  at_ : ∀ (i : Nat) (sv : SV), s[i]? = some (some sv) → ∃ v, σ[i]? = some (some v) ∧ SvR mg xi γ H v sv
  ap : ∀ (i j : Nat) (c c' : MC) (a : Addr), s[i]? = some (some (.ow c)) → s[j]? = some (some (.ow c')) → σ[i]? = some (some (V.ref a)) → σ[j]? = some (some (V.ref a)) → i = j
/-- a meaning's outcome, as it is wished for behind it -/
def Post {α β : Type} (R : Gh → β → α → Prop) (mg : Str → Option Value) (E : XK) (γ : Gh) (H : Hp) (r : Res α) (Q : β → Hp → Prop) : Prop :=
  match r with
  | .ok d m' => ∀ γ' v H', Grow γ H γ' H' → HR mg γ' m' H' → R γ' v d → Q v H'
  | .exc e m' => ∀ γ' H' c d, Grow γ H γ' H' → HR mg γ' m' H' → ExR mg γ' H' e c d → E c d H'
  | .stuck => False
section
variable {mg : Str → Option Value} {xi : XI} {γ γ' γ1 : Gh} {H H' H1 : Hp} {m m' : MS} {σ : St} {s : Sl} {α β α' β' : Type} {R : Gh → β → α → Prop} {R' : Gh → β' → α' → Prop} {E : XK}
theorem COk.there {a : Addr} {c : MC} (h : COk mg γ H a c) : ∃ o, H a = some o := by
  cases c with
  | lst xs => obtain ⟨vs, q, _⟩ := h; exact ⟨_, q⟩
  | dct xs => obtain ⟨vs, q, _⟩ := h; exact ⟨_, q⟩
  | ins c fs => obtain ⟨_, _, _, q, _⟩ := h; exact ⟨_, q⟩
  | dead => exact h
theorem ExR.grow (g : Grow γ H γ' H') {e : Exc} {c : Value} {d : Option Addr} (h : ExR mg γ H e c d) : ExR mg γ' H' e c d := by
  obtain ⟨C, h1, h2, hn, h3⟩ := h
  refine ⟨C, h1, h2, hn, fun v hv => ?_⟩
  obtain ⟨dx, w, e1, e2, e3, e4, e5⟩ := h3 v hv
  exact ⟨dx, w, e1, g.fr _ _ e2 e4, e3.mono g, g.nas e2 e4, g.nF e2 e5⟩
theorem SvR.grow (g : Grow γ H γ' H') {v : V} {sv : SV} (h : SvR mg xi γ H v sv) : SvR mg xi γ' H' v sv := by
  cases sv with
  | sh d => exact RV.mono g h
  | ow c =>
    obtain ⟨a, e, c1, n1, n2⟩ := h
    obtain ⟨o, ho⟩ := c1.there
    exact ⟨a, e, c1.grow g ((g.fr _ _ ho n1).trans ho.symm), g.nas ho n1, g.nF ho n2⟩
  | ex e =>
    obtain ⟨a, c, d, e1, e2, e3⟩ := h
    exact ⟨a, c, d, e1, e2, e3.grow g⟩
theorem SlR.grow (g : Grow γ H γ' H') (h : SlR mg xi γ H σ s) : SlR mg xi γ' H' σ s :=
  ⟨h.len, fun i sv e => let ⟨v, e1, r⟩ := h.at_ i sv e; ⟨v, e1, r.grow g⟩, h.ap⟩
theorem Post.grow (g : Grow γ H γ1 H1) {r : Res α} {Q : β → Hp → Prop} (h : Post R mg E γ H r Q) : Post R mg E γ1 H1 r Q := by
  cases r with
  | ok d m' => exact fun γ' v H' k => h γ' v H' (g.trans k)
  | exc e m' => exact fun γ' H' c d k => h γ' H' c d (g.trans k)
  | stuck => exact h
theorem Post.imp {r : Res α} {Q Q' : β → Hp → Prop} (h : Post R mg E γ H r Q) (k : ∀ v H', Q v H' → Q' v H') : Post R mg E γ H r Q' := by
  cases r with
  | ok d m' => exact fun γ' v H' g hr rv => k _ _ (h γ' v H' g hr rv)
  | exc e m' => exact h
  | stuck => exact h
/-- two in a row -/
theorem Post.bind {r : Res α} {F : α → MS → Res α'} {Q : β' → Hp → Prop} (h : Post R' mg E γ H (r.bind F) Q) :
    Post R mg E γ H r (fun v H1 => ∃ γ1 m1 d, Grow γ H γ1 H1 ∧ HR mg γ1 m1 H1 ∧ R γ1 v d ∧ Post R' mg E γ1 H1 (F d m1) Q) := by
  cases r with
  | ok d m1 => exact fun γ1 v H1 g hr rv => ⟨γ1, m1, d, g, hr, rv, Post.grow g h⟩
  | exc e m1 => exact h
  | stuck => exact h
end

/-- what an expression's meaning says of the reading -/
def TX (g : G) (mg : Str → Option Value) (W : WX) (xi : XI) (ir : E) : TE := fun σ H Q =>
  ∃ γ s m, HR mg γ m H ∧ SlR mg xi γ H σ s ∧ Post RV mg (fun c d H' => W c d σ H') γ H (evE g ir s m) Q
def TXs (g : G) (mg : Str → Option Value) (W : WX) (xi : XI) (irs : List E) : TA := fun σ H Q =>
  ∃ γ s m, HR mg γ m H ∧ SlR mg xi γ H σ s ∧ Post RVs mg (fun c d H' => W c d σ H') γ H (evEs g irs s m) Q
section
variable {g : G} {mg : Str → Option Value} {W : WX} {xi : XI} {γ : Gh} {σ : St} {H : Hp} {m : MS} {s : Sl} {α β : Type} {R : Gh → β → α → Prop}
/-- the first part of an expression -/
theorem TX.go {a : E} {F : D → MS → Res α} {Q : β → Hp → Prop} (hr : HR mg γ m H) (sl : SlR mg xi γ H σ s) (h : Post R mg (fun c d H' => W c d σ H') γ H ((evE g a s m).bind F) Q)
    {P : VK} (k : ∀ γ1 m1 d v H1, Grow γ H γ1 H1 → HR mg γ1 m1 H1 → SlR mg xi γ1 H1 σ s → RV γ1 v d → Post R mg (fun c d H' => W c d σ H') γ1 H1 (F d m1) Q → P v H1) : TX g mg W xi a σ H P :=
  ⟨γ, s, m, hr, sl, (Post.bind (R := RV) h).imp fun v H1 ⟨γ1, m1, d, g1, hr1, rv, p⟩ => k γ1 m1 d v H1 g1 hr1 (sl.grow g1) rv p⟩
theorem TXs.go {as : List E} {F : List D → MS → Res α} {Q : β → Hp → Prop} (hr : HR mg γ m H) (sl : SlR mg xi γ H σ s) (h : Post R mg (fun c d H' => W c d σ H') γ H ((evEs g as s m).bind F) Q)
    {P : List V → Hp → Prop} (k : ∀ γ1 m1 d v H1, Grow γ H γ1 H1 → HR mg γ1 m1 H1 → SlR mg xi γ1 H1 σ s → RVs γ1 v d → Post R mg (fun c d H' => W c d σ H') γ1 H1 (F d m1) Q → P v H1) : TXs g mg W xi as σ H P :=
  ⟨γ, s, m, hr, sl, (Post.bind (R := RVs) h).imp fun v H1 ⟨γ1, m1, d, g1, hr1, rv, p⟩ => k γ1 m1 d v H1 g1 hr1 (sl.grow g1) rv p⟩
end

section
variable {X : Cx} {g : G} {W : WX} {xi : XI}
/-- a reading by another one -/
theorem PE.by {X : Cx} {e : Expr} {t t' : TE} (h : PE X e t') (k : ∀ σ H Q, t σ H Q → t' σ H Q) : PE X e t := ⟨fun pins s σ H Q I q => h.run pins s σ H Q I (k σ H Q q)⟩
theorem PT.by {X : Cx} {e : Expr} {t t' : TT} (h : PT X e t') (k : ∀ σ H Q, t σ H Q → t' σ H Q) : PT X e t := ⟨fun pins s σ H Q I q => h.run pins s σ H Q I (k σ H Q q)⟩
theorem PA.by {X : Cx} {e : List Expr} {t t' : TA} (h : PA X e t') (k : ∀ σ H Q, t σ H Q → t' σ H Q) : PA X e t := ⟨fun pos pins s σ H Q I q => h.run pos pins s σ H Q I (k σ H Q q)⟩

theorem n_con_int {i : Int} {j : Nat} {p : Pos} : PE X (.Constant (.int i) j p) (TX g X.mg W xi (.con (.int i))) :=
  PE.by pe_int fun σ H Q ⟨γ, s, m, hr, sl, h⟩ => h γ _ H .refl hr rfl
theorem n_con_bl {i : Bool} {j : Nat} {p : Pos} : PE X (.Constant (.bool i) j p) (TX g X.mg W xi (.con (.bl i))) :=
  PE.by pe_bl fun σ H Q ⟨γ, s, m, hr, sl, h⟩ => h γ _ H .refl hr rfl
theorem n_con_non {j : Nat} {p : Pos} : PE X (.Constant .none j p) (TX g X.mg W xi (.con .non)) :=
  PE.by pe_non fun σ H Q ⟨γ, s, m, hr, sl, h⟩ => h γ _ H .refl hr rfl
theorem n_con_str {x : Str} {j : Nat} {p : Pos} : PE X (.Constant (.str x) j p) (TX g X.mg W xi (.con (.str x))) :=
  PE.by pe_str fun σ H Q ⟨γ, s, m, hr, sl, h⟩ => h γ _ H .refl hr rfl
theorem n_var {i : Nat} {x : Str} {p : Pos} (hN : X.N[i]? = some x) (hv : Vis X.env.scope x) (hd : (x == ("__debug__" : Str)) = false) (hcd : (x == ("__classdict__" : Str)) = false) : PE X (.Name x p) (TX g X.mg W xi (.var i)) :=
  PE.by (pe_var hN hv hd hcd) fun σ H Q ⟨γ, s, m, hr, sl, h⟩ => by
    simp only [evE] at h
    split at h
    · rename_i d e
      obtain ⟨v, e1, r⟩ := sl.at_ i _ e
      exact ⟨v, e1, h γ v H .refl hr r⟩
    · exact h.elim
theorem n_as_nil : PA X [] (TXs g X.mg W xi []) := PA.by pa_nil fun σ H Q ⟨γ, s, m, hr, sl, h⟩ => h γ [] H .refl hr .nil
theorem n_as_cons {e : Expr} {es : List Expr} {a : E} {as : List E} (he : PE X e (TX g X.mg W xi a)) (hes : PA X es (TXs g X.mg W xi as)) (hi : ∀ x m, splD a x m = some [x]) (hst : starEach (e :: es) X.env = (false, eval e X.env) :: starEach es X.env) :
    PA X (e :: es) (TXs g X.mg W xi (a :: as)) := PA.by (pa_cons he hes hst) fun σ H Q ⟨γ, s, m, hr, sl, h⟩ => by
  simp only [evEs] at h
  refine TX.go hr sl h fun γ1 m1 d v H1 g1 hr1 sl1 rv h1 => ?_
  rw [hi] at h1
  refine TXs.go hr1 sl1 h1 fun γ2 m2 ds vs H2 g2 hr2 sl2 rvs h2 => ?_
  exact h2 γ2 (v :: vs) H2 .refl hr2 (.cons (rv.mono g2) rvs)
end
end DI
end

section
set_option linter.all false
set_option maxRecDepth 100000
set_option maxHeartbeats 1000000
/-! DI.Low: operators of own classes, at the model's level. -/
namespace PySem.W
open PySem PyProof.Rows
section
variable {prog : Program} {w : World} {A : Around} {E : Value → Shared → Prop} {s : Shared} {K : Frag} {x C L f : Addr} {h₀ : Heap} {m : Str → Option Value} {ox : Obj} {od : Option Obj}
/-- own class's operator, a built-in number at the right -/
theorem binop1_KB {nm : String} {b : Value} {T : String} {rT : Option Value} {Q : Option Value → Shared → Prop} (F : Fr h₀ L s.heap m) (X₀ : K.In h₀) (I : InstAt s.heap x ox C od) (hb : Looks (model prog w) s.heap (typeOf b) (.type T))
    (hc : selfFirst K C = true) (hs : findIn K (.ref C) (PySem.dunder nm) = some (some (.ref f))) (hf : isFn K (.ref f) = true)
    (hfi : fillsNumberSlot (.type T) nm = pure true) (hsub : subIn K (.type T) (.ref C) = some false)
    (hr : findIn K (.ref C) (dunderR nm) = some none) (hl : typeLookup (.type T) (dunderR nm) = pure rT)
    (h : wpAny (model prog w) A (call (.ref f) [.ref x, b]) (CmpBack fun v s' => Q (some v) s') E s) : wpAny (model prog w) A (binaryOp1 nm (.ref x) b) Q E s := by
  have X := X₀.keeps F.keep
  obtain ⟨cd, hcd, hm⟩ := any_some hc
  obtain ⟨rest, hm⟩ : ∃ rest, cd.mro = .ref C :: rest := by
    cases q : cd.mro with
    | nil => rw [q] at hm; cases hm
    | cons a r => rw [q] at hm; exact ⟨r, by rw [List.head?_cons] at hm; cases (beq_iff_eq.mp hm); rfl⟩
  unfold binaryOp1
  refine wpAny_bind (I.type.here (wpAny_bind (hb.here (wpAny_bind ((fills_K X hcd hm hs).here ?_)))))
  rw [if_neg (show ¬ ((Value.ref C == Value.type T) = true) from by simp)]
  rw [hfi]
  refine wpAny_bind (wpAny_pure ?_)
  dsimp only
  simp only [Bool.and_self, if_true]
  refine wpAny_bind ((looks_subIn X hsub).here ?_)
  simp only [Bool.false_eq_true, if_false]
  have np : Looks (model prog w) s.heap (numberSlotInPython (.ref C) nm) true := by
    intro A Q E s k q
    unfold numberSlotInPython
    dsimp only
    refine wpAny_bind (looks_findIn X hs A _ E s k ?_)
    refine wpAny_bind (wpAny_pure ?_)
    refine wpAny_bind (looks_findIn X hr A _ E s k ?_)
    refine wpAny_bind (wpAny_pure ?_)
    exact wpAny_pure q
  have nq : (numberSlotInPython (.type T) nm) = pure false := rfl
  simp only [Bool.not_false, Bool.and_self, if_true]
  refine wpAny_bind (np.here ?_)
  simp only [if_true]
  rw [nq]
  refine wpAny_bind (wpAny_pure ?_)
  simp only [Bool.not_false, if_true]
  rw [hl]
  refine wpAny_bind (wpAny_pure ?_)
  refine wpAny_bind (m := tryMethod (.ref x) _ b) ?_
  unfold tryMethod
  refine wpAny_bind (special_fn X I hs (beq_iff_eq.mp hf) (wpAny_mono h (fun v s' hv => ?_) fun _ _ e => e))
  cases v <;> first | exact hv.elim | exact wpAny_pure (wpAny_pure hv)
theorem binop_KB {op : Operator} {b : Value} {T : String} {rT : Option Value} {Q : Value → Shared → Prop} (F : Fr h₀ L s.heap m) (X₀ : K.In h₀) (I : InstAt s.heap x ox C od) (hb : Looks (model prog w) s.heap (typeOf b) (.type T))
    (hc : selfFirst K C = true) (hs : findIn K (.ref C) (PySem.dunder op.info.2) = some (some (.ref f))) (hf : isFn K (.ref f) = true)
    (hfi : fillsNumberSlot (.type T) op.info.2 = pure true) (hsub : subIn K (.type T) (.ref C) = some false)
    (hr : findIn K (.ref C) (dunderR op.info.2) = some none) (hl : typeLookup (.type T) (dunderR op.info.2) = pure rT)
    (h : wpAny (model prog w) A (call (.ref f) [.ref x, b]) (CmpBack Q) E s) : wpAny (model prog w) A (binaryOp op (.ref x) b) Q E s := by
  unfold binaryOp
  refine wpAny_holding (wpAny_bind ?_)
  refine wpAny_mono (binop1_KB (nm := op.info.2) (Q := fun r s' => ∃ v, r = some v ∧ Q v s') F X₀ I hb hc hs hf hfi hsub hr hl (wpAny_mono h (fun v s' hv => ?_) fun _ _ e => e)) (fun r s' z => ?_) fun _ _ e => e
  · cases v <;> first | exact hv.elim | exact ⟨_, rfl, hv⟩
  · obtain ⟨v, rfl, q⟩ := z
    exact wpAny_pure q

/-- own == asked by object.__ne__ -/
def NotBack (Q : Value → Shared → Prop) (v : Value) (s' : Shared) : Prop := ∃ b, v = .bool b ∧ Q (.bool (!b)) s'
theorem tryNe_K {b : Value} {Q : Option Value → Shared → Prop} (hu : A.units + 1 < cLine) (X : K.In s.heap) (I : InstAt s.heap x ox C od)
    (hs : findIn K (.ref C) "__eq__" = some (some (.ref f))) (hf : isFn K (.ref f) = true) (hn : findIn K (.ref C) "__ne__" = some (some (.builtin "object.__ne__"))) (ho : mroIn K C (.type "object") = some true)
    (h : wpAny (model prog w) A.in1 (call (.ref f) [.ref x, b]) (NotBack fun v s' => Q (some v) s') E s) : wpAny (model prog w) A (tryCompare (.ref x) "__ne__" b) Q E s := by
  have S := PySem.F.cmp_object.ne
  have sub : Looks (model prog w) s.heap (isInstance (.ref x) (.type "object")) true := I.type.andThen (looks_mroIn X ho)
  have inner : wpAny (model prog w) A.in1 (Builtin.«object.__ne__» ⟨[.ref x, b], []⟩) (fun fin s' => match fin with
      | .done (.ret v) => ∃ k, v = .bool k ∧ Q (some (.bool k)) s'
      | _ => False) E s := by
    unfold Builtin.«object.__ne__»
    obtain ⟨hp, g, d, t, os⟩ := s
    repeat (first
      | with_reducible refine wpAny_cRoomFor (show A.in1.units < cLine from hu) ?_
      | (refine wpAny_bind (m := callSpecialIfBound? (.ref x) (Str.ofString "__eq__") [b])
          (ifBound_K X I hs hf (wpAny_mono h (fun r s' hr => by
            obtain ⟨k, rfl, hq⟩ := hr
            repeat (first | exact ⟨_, rfl, hq⟩ | exact wpAny_pure ⟨_, rfl, hq⟩ | (refine wpAny_bind (m := truthy (.bool _)) (wpAny_truthy_bool ?_)) | wp_step)) fun _ _ e => e)))
      | wp_step)
  unfold tryCompare
  simp only [callSpecialIfBound?, bindSpecialIfBound?]
  refine wpAny_bind (wpAny_holding (wpAny_bind (wpAny_bind (wpAny_bind (I.type.here ((looks_findIn X hn).here ?_))))))
  dsimp only
  simp only [S.bind]
  refine wpAny_bind (wpAny_askSetting (wpAny_ite ?_))
  have fin : wpAny (model prog w) A (call (.builtin "object.__ne__") ([.ref x] ++ [b]) >>= fun v => pure (some v)) (fun r s' => wpAny (model prog w) A (match r with
      | some .notImplemented | none => (pure none : Sem (Option Value))
      | some v => pure (some v)) Q E s') E s := by
    refine wpAny_bind (wpAny_call (codeAny_call_builtin S.plain F.cmpEntry_ne (check_slot F.cmpKind_ne F.cmpSplit_ne sub (F.cmpArgs_ne _ _) ?_)))
    refine wpAny_mono inner (fun fin s' z => ?_) fun _ _ e => e
    cases fin with
    | done fl =>
      cases fl with
      | ret v =>
        obtain ⟨k, rfl, q⟩ := z
        exact wpAny_pure (wpAny_pure q)
      | _ => exact z.elim
    | again c => exact z.elim
  split
  · exact wpAny_bind (wpAny_pure (wpAny_pure fin))
  · exact wpAny_tryCatch (wpAny_bind (wpAny_pure (wpAny_pure fin)))
theorem ne_K {b tb : Value} {Q : Value → Shared → Prop} {m : Str → Option Value} (hu : A.units + 1 < cLine) (F : Fr h₀ L s.heap m) (X₀ : K.In h₀) (I : InstAt s.heap x ox C od) (hb : Looks (model prog w) s.heap (typeOf b) tb) (hnf : notFirst K C tb = true)
    (hs : findIn K (.ref C) "__eq__" = some (some (.ref f))) (hf : isFn K (.ref f) = true) (hn : findIn K (.ref C) "__ne__" = some (some (.builtin "object.__ne__"))) (ho : mroIn K C (.type "object") = some true)
    (h : wpAny (model prog w) A.in1 (call (.ref f) [.ref x, b]) (NotBack Q) E s) : wpAny (model prog w) A (richCompare .NotEq (.ref x) b) Q E s := by
  have X := X₀.keeps F.keep
  have one : wpAny (model prog w) A (tryCompare (.ref x) "__ne__" b) (fun r s' => ∃ v, r = some v ∧ Q v s') E s :=
    tryNe_K hu X I hs hf hn ho (wpAny_mono h (fun v s' ⟨k, e, q⟩ => ⟨k, e, _, rfl, q⟩) fun _ _ e => e)
  unfold richCompare
  simp only [oneThing_ref]
  refine wpAny_holding (wpAny_bind (wpAny_cRoomFor (Nat.lt_of_succ_lt hu) ?_))
  refine wpAny_bind (I.type.here (wpAny_bind (hb.here ?_)))
  split
  · rename_i q
    have e : subIn K tb (.ref C) = some false := by
      rcases Bool.or_eq_true_iff.mp hnf with e | e
      · rw [beq_iff_eq.mp e] at q; simp at q
      · exact beq_iff_eq.mp e
    refine wpAny_bind ((looks_subIn X e).here ?_)
    simp only [Bool.false_eq_true, if_false]
    refine wpAny_bind (wpAny_mono one (fun r s' z => ?_) fun _ _ e => e)
    obtain ⟨v, rfl, hq⟩ := z
    exact wpAny_pure hq
  · refine wpAny_bind (wpAny_pure ?_)
    simp only [Bool.false_eq_true, if_false]
    refine wpAny_bind (wpAny_mono one (fun r s' z => ?_) fun _ _ e => e)
    obtain ⟨v, rfl, hq⟩ := z
    exact wpAny_pure hq

theorem neg_K {M : Model} {Q : Value → Shared → Prop} (X : K.In s.heap) (I : InstAt s.heap x ox C od) (hs : findIn K (.ref C) "__neg__" = some (some (.ref f))) (hf : isFn K (.ref f) = true)
    (h : wpAny M A (call (.ref f) [.ref x]) Q E s) : wpAny M A (unaryOp .USub (.ref x)) Q E s := by
  unfold unaryOp
  refine wpAny_holding ?_
  simp only [show (UnaryOp.USub == UnaryOp.Not) = false from rfl, Bool.false_eq_true, if_false]
  refine wpAny_bind (special_fn X I hs (beq_iff_eq.mp hf) (wpAny_mono h (fun v s' hv => ?_) fun _ _ e => e))
  exact wpAny_pure hv
end
end PySem.W
end

section
set_option linter.all false
set_option maxRecDepth 100000
set_option maxHeartbeats 1000000
/-! DI.S2: what is called, own classes, operators, ==. -/
namespace DI
open PySem L2

/-- room, and no repr around -/
structure Room (k : Nat) (A : Around) : Prop extends L2.Room k A where
  gd : A.guards = some []
theorem Room.mono {j k : Nat} {A : Around} (r : Room k A) (h : j ≤ k) : Room j A := ⟨r.toRoom.mono h, r.gd⟩
theorem Room.in1 {k : Nat} {A : Around} (r : Room (k + 1) A) : Room k A.in1 := ⟨r.toRoom.in1, r.gd⟩
structure Sub (X : Cx) (n : Nat) (A : Around) : Prop where
  room : Room n A
  fr : A.frames = X.A.frames
theorem Sub.in1 {X : Cx} {n : Nat} {A : Around} (s : Sub X (n + 1) A) : Sub X n A.in1 := ⟨s.room.in1, s.fr⟩
theorem Sub.mono {X : Cx} {j k : Nat} {A : Around} (s : Sub X k A) (h : j ≤ k) : Sub X j A := ⟨s.room.mono h, s.fr⟩
/-- called with values that stand for ds, it does what f says of ds -/
def RunSh (P : Program) (w : World) (K : PySem.W.Frag) (mg : Str → Option Value) (base : Heap) (lv : Nat) (u : Value) (n : Nat) (ks : List Str) (f : Sem) : Prop :=
  ∀ (X : Cx), X.prog = P → X.w = w → X.K = K → X.mg = mg → X.base = base → ∀ (A : Around), Sub X lv A → ∀ (pins : List (Addr × Obj)) (s : Shared) (σ : St) (H : Hp) (us ws : List Value) (vs zs : List V) (Q : VK) (E : XK) (γ : Gh) (ds : List D) (m : MS),
    Inv X pins σ H s → PassesAt (L2.CX P w) X σ E → vs.length = n → zs.length = ks.length → Vals vs us → Vals zs ws → HR mg γ m H → RVs γ (vs ++ zs) ds → Post RV mg E γ H (f ds m) Q →
      wpAny (model X.prog X.w) A (call u us (ks.zip ws)) (EP X pins σ Q) X.xe s
/-- the facts of an own class -/
structure ClsF (K : PySem.W.Frag) (C : Addr) : Prop where
  cls : Cls K C
  ha : PySem.W.findIn K (.ref C) "__class__" = some (some (.builtin "object.__class__"))
  hn : PySem.W.specialIn K (.builtin "object.__class__") "__get__" = some (some (.builtin "getset_descriptor.__get__"))
  htk : PySem.W.takesIn K (.builtin "object.__class__") = some true
  hm : PySem.W.mroIn K C (.type "object") = some true
  sf : PySem.W.selfFirst K C = true
  nf : ∀ T ∈ (["NoneType", "bool", "int", "str", "tuple", "list", "dict"] : List String), PySem.W.subIn K (.type T) (.ref C) = some false
  isC : ∀ T ∈ (["NoneType", "bool", "int", "str", "tuple", "list", "dict"] : List String), PySem.W.kitOne K (.type T) (.ref C) = some false
  isT : ∀ T ∈ (["bool", "int", "str", "tuple", "list", "dict"] : List String), PySem.W.kitOne K (.ref C) (.type T) = some false
/-- an own method, called on an instance of the class c -/
def MethSh (P : Program) (w : World) (K : PySem.W.Frag) (mg : Str → Option Value) (base : Heap) (lv : Nat) (c : Nat) (nm : Str) (n : Nat) (ks : List Str) (f : Sem) : Prop :=
  ∃ C fa, mg (clsName c) = some (.ref C) ∧ Meth K C nm fa ∧ RunSh P w K mg base lv (.ref fa) (n + 1) ks f
/-- the names of operators -/
def bopName : Bop → Str
  | .add => "__add__" | .sub => "__sub__" | .mul => "__mul__" | .fdiv => "__floordiv__" | .mod => "__mod__" | .pow => "__pow__"
def bopR : Bop → Str
  | .add => "__radd__" | .sub => "__rsub__" | .mul => "__rmul__" | .fdiv => "__rfloordiv__" | .mod => "__rmod__" | .pow => "__rpow__"
def copName : Cop → Str
  | .lt => "__lt__" | .le => "__le__" | _ => "?"
/-- the context that soundness asks: classes, operators, what is called by name -/
structure Ok0 (g : G) (lv : Nat) (P : Program) (w : World) (K : PySem.W.Frag) (mg : Str → Option Value) (base : Heap) : Prop where
  cls : ∀ c C, mg (clsName c) = some (.ref C) → ClsF K C
  two : ∀ c d C D, mg (clsName c) = some (.ref C) → mg (clsName d) = some (.ref D) → PySem.W.kitOne K (.ref D) (.ref C) = some (d == c) ∧ (d ≠ c → PySem.W.subIn K (.ref D) (.ref C) = some false)
  one : ∀ c d C, mg (clsName c) = some (.ref C) → mg (clsName d) = some (.ref C) → c = d
  bop : ∀ op c f, (opTab g op).lookup c = some f → MethSh P w K mg base lv c (bopName op) 1 [] f ∧ ∀ C, mg (clsName c) = some (.ref C) → PySem.W.findIn K (.ref C) (bopR op) = some none
  neg : ∀ c f, g.neg.lookup c = some f → MethSh P w K mg base lv c "__neg__" 0 [] f
  eq : ∀ c f, g.eq.lookup c = some f → MethSh P w K mg base lv c "__eq__" 1 [] f ∧ (∀ C, mg (clsName c) = some (.ref C) → PySem.W.findIn K (.ref C) "__ne__" = some (some (.builtin "object.__ne__"))) ∧
    (∀ fs m r, f [.obj c fs, .obj c fs] m = r → r ≠ .stuck → r = .ok (.bl true) m) ∧ ∀ x y m r m', f [x, y] m = .ok r m' → m' = m
  fld : ∀ c f C, (c, f) ∈ g.fld → mg (clsName c) = some (.ref C) → NoAttr K C f
  cop : ∀ op c f, (ltTab g op).lookup c = some f → MethSh P w K mg base lv c (copName op) 1 [] f

section
variable {P : Program} {w : World} {K : PySem.W.Frag} {mg : Str → Option Value} {base : Heap} {lv : Nat} {f : Sem} {X : Cx} {pins : List (Addr × Obj)} {s : Shared} {σ : St} {H : Hp} {γ : Gh} {m : MS}
/-- what a def promises by its meaning -/
def spF (mg : Str → Option Value) (f : Sem) (n : Nat) : Sp := fun vs H Q E => ∃ γ ds m, vs.length = n ∧ HR mg γ m H ∧ RVs γ vs ds ∧ Post RV mg E γ H (f ds m) Q

theorem RunSh.of_fn {fa : Addr} {fd : FuncData} {ps : List Str} (F : FnOk P w K mg base (L2.CX P w) lv fa fd ps (spF mg f ps.length)) (hb : Binds K fd ps []) : RunSh P w K mg base lv (.ref fa) ps.length [] f := by
  intro X hP hw hK hmg hba A sb pins s σ H us ws vs zs Q E γ ds m I hx hn hz r1 r2 hr rv hp
  subst hP hw hK hmg hba
  cases r2 with
  | cons _ _ => simp at hz
  | nil =>
    have hl : us.length = ps.length := by rw [← r1.length]; exact hn
    have b := hb s us I.kIn (by rw [List.append_nil]; exact hl)
    rw [List.append_nil] at b rv
    have e0 : Env0 X.prog X.w X.K X.mg X.base A X.stack s H := by
      have e := I.env0
      exact ⟨by rw [sb.fr]; exact e.frames, e.mod, e.bs, e.bsz, e.funs, e.frf, e.hok, e.bare⟩
    refine wpAny_call (codeAny_mono (F.run A X.stack s H ⟨us, []⟩ us vs Q E sb.room.toRoom e0 b r1 ⟨γ, ds, m, hn, hr, rv, hp⟩) fun r s' hq => ?_)
    cases r with
    | error e => exact hx pins H s e s' I hq
    | ok fl =>
      cases fl with
      | ret u => exact I.after hq
      | next => exact False.elim hq
      | brk => exact False.elim hq
      | cont => exact False.elim hq
theorem RunSh.mono {u : Value} {n : Nat} {ks : List Str} {k : Nat} (h : RunSh P w K mg base lv u n ks f) (hk : lv ≤ k) : RunSh P w K mg base k u n ks f :=
  fun X h1 h2 h3 h4 h5 A sb => h X h1 h2 h3 h4 h5 A (sb.mono hk)
/-- the type of a value that stands for d -/
def tyOf (mg : Str → Option Value) : D → Value → Prop
  | .non, t => t = .type "NoneType"
  | .bl _, t => t = .type "bool"
  | .int _, t => t = .type "int"
  | .str _, t => t = .type "str"
  | .tup _, t => t = .type "tuple"
  | .lst _, t => t = .type "list"
  | .dct _, t => t = .type "dict"
  | .obj c _, t => ∃ C, mg (clsName c) = some (.ref C) ∧ t = .ref C
  | .ref _, _ => False
theorem tyX_of {g : G} (o : Ok0 g lv P w K mg base) (hr : HR mg γ m H) {v : V} {d : D} (r : RV γ v d) (hd : ∀ i, d ≠ .ref i) : ∃ t, tyOf mg d t ∧ TyX K H v t := by
  cases d with
  | non => cases r; exact ⟨_, rfl, .base .non⟩
  | bl b => cases r; exact ⟨_, rfl, .base (.bl b)⟩
  | int i => cases r; exact ⟨_, rfl, .base (.int i)⟩
  | str x => cases r; exact ⟨_, rfl, .base (.str x)⟩
  | tup xs =>
    obtain ⟨a, rfl, e⟩ := r
    obtain ⟨vs, q, _⟩ := hr.fr a _ e
    rcases q with q | ⟨ob, q⟩
    · exact ⟨_, rfl, .base (.tup q)⟩
    · exact ⟨_, rfl, .fTuple q⟩
  | lst xs =>
    obtain ⟨a, rfl, e⟩ := r
    obtain ⟨vs, q, _⟩ := hr.fr a _ e
    rcases q with q | ⟨ob, q⟩
    · exact ⟨_, rfl, .base (.lst q)⟩
    · exact ⟨_, rfl, .base (.frz q)⟩
  | dct xs =>
    obtain ⟨a, rfl, e⟩ := r
    obtain ⟨ob, vs, q, _⟩ := hr.fr a _ e
    exact ⟨_, rfl, .fDict q⟩
  | obj c fs =>
    obtain ⟨a, rfl, e⟩ := r
    obtain ⟨C, dx, fw, q, hC, _⟩ := hr.fr a _ e
    have F := o.cls c C hC
    exact ⟨_, ⟨C, hC, rfl⟩, .base (.ins q F.cls F.ha F.hn F.htk F.hm)⟩
  | ref i => exact absurd rfl (hd i)
theorem looks_ty (I : Inv X pins σ H s) {v : V} {u t : Value} (rv : RelV v u) (ty : TyX X.K H v t) : PySem.W.Looks (model X.prog X.w) s.heap (typeOf u) t := by
  obtain ⟨Ph, kx, ph, _⟩ := kit_of I rv ty
  exact kx.ty _ _ I.kIn ph
/-- no subclass stands at the right -/
theorem notFirst_of {g : G} (o : Ok0 g lv P w K mg base) {c : Nat} {C : Addr} (hC : mg (clsName c) = some (.ref C)) {d : D} {t : Value} (ht : tyOf mg d t) : PySem.W.notFirst K C t = true := by
  have F := o.cls c C hC
  have nb : ∀ T, T ∈ (["NoneType", "bool", "int", "str", "tuple", "list", "dict"] : List String) → PySem.W.notFirst K C (.type T) = true := fun T hT => by
    simp [PySem.W.notFirst, F.nf T hT]
  cases d with
  | non => cases ht; exact nb _ (by simp)
  | bl b => cases ht; exact nb _ (by simp)
  | int i => cases ht; exact nb _ (by simp)
  | str x => cases ht; exact nb _ (by simp)
  | tup xs => cases ht; exact nb _ (by simp)
  | lst xs => cases ht; exact nb _ (by simp)
  | dct xs => cases ht; exact nb _ (by simp)
  | obj d fs =>
    obtain ⟨C', h', rfl⟩ := ht
    by_cases e : d = c
    · subst e
      rw [hC] at h'
      cases h'
      simp [PySem.W.notFirst]
    · simp [PySem.W.notFirst, (o.two c d C C' hC h').2 e]
  | ref i => exact ht.elim
end
end DI
end

section
set_option linter.all false
set_option maxRecDepth 100000
set_option maxHeartbeats 1000000
/-! DI.S3: operators. -/
namespace DI
open PySem L2
open PyProof.Rows hiding St
/-- a two-place operation whose errors are told at the slots -/
def OpS (X : Cx) (f : Value → Value → PySem.Sem Value) (r : L2.St → V → V → Hp → VK → Prop) : Prop :=
  ∀ (pins : List (Addr × Obj)) (s : Shared) (σ : L2.St) (H : Hp) (x y : V) (v u : Value) (Q : VK), Inv X pins σ H s → RelV x v → RelV y u → r σ x y H Q →
    wpAny (model X.prog X.w) X.A (f v u) (EP X pins σ Q) X.xe s
theorem OpS.of {X : Cx} {f : Value → Value → PySem.Sem Value} {r : R2} (h : OpR X f r) : OpS X f (fun _ => r) := fun pins s σ H x y v u Q => h pins s σ H x y v u Q
theorem pe_opS {X : Cx} {a b : Expr} {ta tb : TE} {pos : Pos} {op : Operator} {r : L2.St → V → V → Hp → VK → Prop} (ho : OpS X (binaryOp op) r) (ha : PE X a ta) (hb : PE X b tb) :
    PE X (.BinOp a op b pos) (fun σ H Q => ta σ H fun x H1 => tb σ H1 fun y H2 => r σ x y H2 Q) := by
  refine ⟨fun pins s σ H Q I h => ?_⟩
  exact wpAny_BinOp (binT ha hb I h fun v u s2 x y H2 I2 rx ry q => ho pins s2 σ H2 x y v u Q I2 rx ry q)
def bopOf : Bop → Operator
  | .add => .Add | .sub => .Sub | .mul => .Mult | .fdiv => .FloorDiv | .mod => .Mod | .pow => .Pow
theorem bopName_eq (op : Bop) : PySem.dunder (bopOf op).info.2 = bopName op := by cases op <;> decide +kernel
theorem bopR_eq (op : Bop) : dunderR (bopOf op).info.2 = bopR op := by cases op <;> decide +kernel
theorem intBits_lt {i : Int} {n : Nat} (h : i.natAbs < 2 ^ n) (hn : 0 < n) : Builtin.Int.intBits i ≤ n := by
  have l := PySem.Flt.log2_lt_of hn h
  unfold Builtin.Int.intBits
  split <;> omega
theorem mulOk.ok {i j : Int} (h : mulOk i j) : IntMulOk i j :=
  .of_le (intBits_lt h.1 (by unfold mulBits; omega)) (intBits_lt h.2 (by unfold mulBits; omega)) (by unfold mulBits; omega)
theorem cmpBack {X : Cx} {pins : List (Addr × Obj)} {σ : L2.St} {Q : VK} {u : Value} {s : Shared} (h : EP X pins σ Q u s) : PySem.W.CmpBack (EP X pins σ Q) u s := by
  obtain ⟨v, H, I, r, q⟩ := h
  cases v with
  | non => cases r; exact ⟨.non, H, I, rfl, q⟩
  | bl b => cases r; exact ⟨.bl b, H, I, rfl, q⟩
  | int i => obtain ⟨t, rfl⟩ := r; exact ⟨.int i, H, I, ⟨t, rfl⟩, q⟩
  | str x => obtain ⟨t, rfl⟩ := r; exact ⟨.str x, H, I, ⟨t, rfl⟩, q⟩
  | byt b => obtain ⟨t, rfl⟩ := r; exact ⟨.byt b, H, I, ⟨t, rfl⟩, q⟩
  | flt b => obtain ⟨t, rfl⟩ := r; exact ⟨.flt b, H, I, ⟨t, rfl⟩, q⟩
  | ref a => cases r; exact ⟨.ref a, H, I, rfl, q⟩
  | ty n => cases r; exact ⟨.ty n, H, I, rfl, q⟩
theorem fills_int (op : Bop) (h : op = .add ∨ op = .sub ∨ op = .mul) : fillsNumberSlot (.type "int") (bopOf op).info.2 = pure true := by
  rcases h with rfl | rfl | rfl
  · exact PySem.F.fills_int_add
  · exact PySem.F.fills_int_sub
  · exact PySem.F.fills_int_mul
theorem looks_r (op : Bop) (h : op = .add ∨ op = .sub ∨ op = .mul) : ∃ rT, typeLookup (.type "int") (dunderR (bopOf op).info.2) = pure rT := by
  rcases h with rfl | rfl | rfl
  · exact ⟨_, PySem.F.slot_int_radd.lookup⟩
  · exact ⟨_, PySem.F.slot_int_rsub.lookup⟩
  · exact ⟨_, PySem.F.slot_int_rmul.lookup⟩
section
variable {X : Cx} {g : G} {W : WX} {xi : XI} {lv : Nat}
/-- what the meaning of an operation says of the reading -/
def rD (mg : Str → Option Value) (W : WX) (F : D → D → MS → Res D) (σ : L2.St) : R2 := fun x y H Q => ∃ γ d e m, HR mg γ m H ∧ RV γ x d ∧ RV γ y e ∧ Post RV mg (fun c dd H' => W c dd σ H') γ H (F d e m) Q
theorem ins_at {mg : Str → Option Value} {pins : List (Addr × Obj)} {σ : L2.St} {H : Hp} {s : Shared} {γ : Gh} {m : MS} (I : Inv X pins σ H s) (hr : HR mg γ m H) {c : Nat} {fs : List (Str × D)} {x : V} (rx : RV γ x (.obj c fs)) :
    ∃ a C dx fw od, x = .ref a ∧ mg (clsName c) = some (.ref C) ∧ H a = some (.ins C dx fw) ∧ RK γ fw fs ∧ PySem.W.InstAt s.heap a (PySem.W.instObj C dx) C od := by
  obtain ⟨a, rfl, e⟩ := rx
  obtain ⟨C, dx, fw, q, hC, rk⟩ := hr.fr a _ e
  obtain ⟨mA, J, _⟩ := ins_get I.hok q
  obtain ⟨od, J, _⟩ := J.look
  exact ⟨a, C, dx, fw, od, rfl, hC, q, rk, J⟩
theorem op_own_bin (o : Ok0 g lv X.prog X.w X.K X.mg X.base) (hroom : Room lv X.A) (tk : Takes X W) (op : Bop) {pins : List (Addr × Obj)} {s : Shared} {σ : L2.St} {H : Hp} {y : V} {c : Nat} {fs : List (Str × D)} {e : D} {x : V} {v u : Value} {Q : VK} {γ : Gh} {m : MS} {f : Sem}
    (I : Inv X pins σ H s) (rx : RelV x v) (ry : RelV y u) (hr : HR X.mg γ m H) (rv : RV γ x (.obj c fs)) (re : RV γ y e) (he : (∃ j, e = .int j) ∨ ∃ gs, e = .obj c gs) (hf : (opTab g op).lookup c = some f)
    (h : Post RV X.mg (fun c dd H' => W c dd σ H') γ H (f [.obj c fs, e] m) Q) : wpAny (model X.prog X.w) X.A (binaryOp (bopOf op) v u) (EP X pins σ Q) X.xe s := by
  obtain ⟨⟨C, fa, hC, M, R⟩, hR⟩ := o.bop op c f hf
  obtain ⟨a, C', dx, fw, od, rfl, hC', ha, rk, J⟩ := ins_at I hr rv
  rw [hC] at hC'
  cases hC'
  cases rx
  have cf := o.cls c C hC
  obtain ⟨mf, fr⟩ := I.fr
  have hop : op = .add ∨ op = .sub ∨ op = .mul := by
    cases op with
    | add => exact .inl rfl
    | sub => exact .inr (.inl rfl)
    | mul => exact .inr (.inr rfl)
    | _ => simp [opTab] at hf
  have run : wpAny (model X.prog X.w) X.A (call (.ref fa) [.ref a, u]) (PySem.W.CmpBack (EP X pins σ Q)) X.xe s := by
    refine wpAny_mono (R X rfl rfl rfl rfl rfl X.A ⟨hroom, rfl⟩ pins s σ H [.ref a, u] [] [.ref a, y] [] Q _ γ [.obj c fs, e] m I (passAt tk σ) rfl rfl (.cons rfl (.cons ry .nil)) .nil hr (.cons rv (.cons re .nil)) h) (fun r s' z => cmpBack z) fun _ _ z => z
  rcases he with ⟨j, rfl⟩ | ⟨gs, rfl⟩
  · have re' : y = .int j := re
    subst re'
    obtain ⟨rT, hl⟩ := looks_r op hop
    refine PySem.W.binop_KB (T := "int") fr I.ok.mod.kin J (looks_ty I ry (.base (.int j))) cf.sf (by rw [bopName_eq]; exact M.at_) M.fn (fills_int op hop) (cf.nf _ (by simp)) (by rw [bopR_eq]; exact hR C hC) hl run
  · obtain ⟨t, ht, ty⟩ := tyX_of o hr re (fun _ z => nomatch z)
    obtain ⟨C2, hC2, rfl⟩ := ht
    rw [hC] at hC2
    cases hC2
    exact PySem.W.binop_K fr I.ok.mod.kin J (looks_ty I ry ty) cf.sf (by rw [bopName_eq]; exact M.at_) M.fn run
/-- list + list, however they are known -/
theorem op_cat_rd : OpR X (binaryOp .Add) (fun x y H Q => ∃ l b xs zs, x = .ref l ∧ y = .ref b ∧ Rd H l (.lst xs) ∧ Rd H b (.lst zs) ∧ xs.length + zs.length ≤ sizeLine ∧ ∀ p, H p = none → Q (.ref p) (upd H p (.lst (xs ++ zs)))) := by
  intro pins s σ H x y v u Q I rx ry h
  obtain ⟨l, b, xs, zs, rfl, rfl, hH, hB, hz, q⟩ := h
  cases rx
  cases ry
  obtain ⟨z, its, n, r, e⟩ := hH.ok I.hok
  obtain ⟨z2, its2, n2, r2, e2⟩ := hB.ok I.hok
  have hl := r.length
  have hl2 := r2.length
  refine PySem.P.add_list e e2 ?_ (by rw [List.size_toArray, List.size_toArray]; omega)
  have ea : its.toArray ++ its2.toArray = (its ++ its2).toArray := by simp
  rw [ea]
  exact ⟨.ref _, _, I.lnew (t' := s.toks) (r.append r2) (by rw [List.length_append]; omega), rfl, q _ I.fresh⟩
theorem maxLen_le {n : Nat} (h : n ≤ maxLen) : n ≤ sizeLine := by rw [sizeLine_eq]; unfold maxLen at h; omega
theorem op_bin (o : Ok0 g lv X.prog X.w X.K X.mg X.base) (hroom : Room lv X.A) (tk : Takes X W) (op : Bop) : OpS X (binaryOp (bopOf op)) (rD X.mg W (binD g op)) := by
  intro pins s σ H x y v u Q I rx ry h
  obtain ⟨γ, d, e, m, hr, rd, re, h⟩ := h
  unfold binD at h
  split at h
  · rename_i i j
    have rd' : x = .int i := rd
    have re' : y = .int j := re
    subst rd' re'
    split at h
    · rename_i k hk
      have fin : Q (.int k) H := h γ _ H .refl hr rfl
      cases op with
      | add => cases hk; exact op_add pins s σ H _ _ v u Q I rx ry ⟨i, j, rfl, rfl, fin⟩
      | sub => cases hk; exact op_sub pins s σ H _ _ v u Q I rx ry ⟨i, j, rfl, rfl, fin⟩
      | mul =>
        simp only [intBin] at hk
        split at hk
        · rename_i hm
          cases hk
          obtain ⟨t, rfl⟩ := rx
          obtain ⟨t', rfl⟩ := ry
          exact mul_int ⟨.int (i * j), H, I.tok _, ⟨_, rfl⟩, fin⟩ hm.ok
        · cases hk
      | fdiv =>
        simp only [intBin] at hk
        split at hk
        · rename_i hm
          cases hk
          obtain ⟨t, rfl⟩ := rx
          obtain ⟨t', rfl⟩ := ry
          exact floordiv_int hm.1 ⟨.int (i.fdiv j), H, I.tok _, ⟨_, rfl⟩, fin⟩ (.inl (PyProof.noPylong_of_log2 (PySem.Flt.log2_lt_of (by decide) hm.2)))
        · cases hk
      | mod =>
        simp only [intBin] at hk
        split at hk
        · cases hk
        · rename_i hm
          cases hk
          exact op_modN pins s σ H _ _ v u Q I rx ry ⟨i, j, rfl, rfl, hm, fin⟩
      | pow =>
        simp only [intBin] at hk
        split at hk
        · rename_i hm
          cases hk
          obtain ⟨t, rfl⟩ := rx
          obtain ⟨t', rfl⟩ := ry
          refine pow_int hm.1 ?_ ⟨.int (i ^ j.toNat), H, I.tok _, ⟨_, rfl⟩, fin⟩
          have hb : Builtin.Int.intBits i ≤ 1000 := intBits_lt hm.2.2 (by decide)
          have h1 := hm.1
          have h2 := hm.2.1
          have hb' : (Builtin.Int.intBits i : Int) ≤ 1000 := by exact_mod_cast hb
          calc (Builtin.Int.intBits i : Int) * j ≤ 1000 * 100 := Int.mul_le_mul hb' h2 h1 (by decide)
            _ ≤ 2 ^ 27 := by decide
        · cases hk
    · exact h.elim
  · rename_i xs ys
    split at h
    · rename_i hm
      obtain ⟨rfl, hl⟩ := hm
      obtain ⟨a, rfl, ea⟩ := rd
      obtain ⟨b, rfl, eb⟩ := re
      obtain ⟨vs, qa, ra⟩ := hr.fr a _ ea
      obtain ⟨ws, qb, rb⟩ := hr.fr b _ eb
      refine op_cat_rd pins s σ H _ _ v u Q I rx ry ⟨a, b, vs, ws, rfl, rfl, qa, qb, maxLen_le (by rw [ra.length, rb.length]; exact hl), fun p hp => ?_⟩
      have gg : Grow γ H (γ.add p (.lst (xs ++ ys)) (.lst (vs ++ ws))) (upd H p (.lst (vs ++ ws))) := Grow.add hr hp
      exact h _ _ _ gg (hr.add hp ⟨vs ++ ws, .inl upd_same, (RVs.append ra rb).mono gg⟩) ⟨p, rfl, Gh.add_same⟩
    · exact h.elim
  · rename_i a b
    split at h
    · rename_i hm
      obtain ⟨rfl, hl⟩ := hm
      have rd' : x = .str a := rd
      have re' : y = .str b := re
      subst rd' re'
      exact op_add_str pins s σ H _ _ v u Q I rx ry ⟨a, b, rfl, rfl, maxLen_le hl, h γ _ H .refl hr rfl⟩
    · exact h.elim
  · rename_i c fs j
    split at h
    · rename_i f hf
      exact op_own_bin o hroom tk op I rx ry hr rd re (.inl ⟨j, rfl⟩) hf h
    · exact h.elim
  · rename_i c fs d gs
    split at h
    · rename_i hd
      subst hd
      split at h
      · rename_i f hf
        exact op_own_bin o hroom tk op I rx ry hr rd re (.inr ⟨gs, rfl⟩) hf h
      · exact h.elim
    · exact h.elim
  · exact h.elim
theorem n_bin (o : Ok0 g lv X.prog X.w X.K X.mg X.base) (hroom : Room lv X.A) (tk : Takes X W) {op : Bop} {a b : Expr} {p : Pos} {ia ib : E} (ha : PE X a (TX g X.mg W xi ia)) (hb : PE X b (TX g X.mg W xi ib)) :
    PE X (.BinOp a (bopOf op) b p) (TX g X.mg W xi (.bin op ia ib)) := PE.by (pe_opS (op_bin o hroom tk op) ha hb) fun σ H Q ⟨γ, s, m, hr, sl, h⟩ => by
  simp only [evE] at h
  refine TX.go hr sl h fun γ1 m1 d v H1 g1 hr1 sl1 rv h1 => ?_
  refine TX.go hr1 sl1 h1 fun γ2 m2 e w H2 g2 hr2 sl2 rw' h2 => ?_
  exact ⟨γ2, d, e, m2, hr2, rv.mono g2, rw', h2⟩
end
end DI
end

section
set_option linter.all false
set_option maxRecDepth 100000
set_option maxHeartbeats 2000000
/-! DI.Low2: == and != of lists and tuples whose items are compared by own classes too. -/
namespace DIQ
open PySem PySem.SeqAt
open AutoSeq1 (wpAny_loadPart')
open MeetsSeq MeetsSeq2 MeetsSeq3 SeqRoads2
section
variable {prog : Program} {w : World} {A : Around} {R : Result → Shared → Prop}
structure ListJ (prog : Program) (w : World) (A : Around) (E : Value → Shared → Prop) (l b : Addr) (N : Nat) (I : Nat → Shared → Prop) (J : Shared → Prop) : Prop where
  at_ : ∀ i s, I i s → ∃ (items items2 : Array Value) (n n2 : Nat), s.heap.get? l = some { cls := .type "list", data := .seq items n } ∧ s.heap.get? b = some { cls := .type "list", data := .seq items2 n2 } ∧ items.size = N ∧ items2.size = N ∧
    ∀ (h1 : i < items.size) (h2 : i < items2.size), wpAny (model prog w) A.in1 (eqBool items[i] items2[i]) (fun r s' => match r with | true => I (i + 1) s' | false => J s') E s
  end_ : ∀ s, J s → ∃ (items items2 : Array Value) (n n2 : Nat), s.heap.get? l = some { cls := .type "list", data := .seq items n } ∧ s.heap.get? b = some { cls := .type "list", data := .seq items2 n2 } ∧ items.size = N ∧ items2.size = N

/-- list == list: at each turn both lists are read anew: N items each; J: the i-th two were not equal -/
theorem loopEq (l b : Addr) (N : Nat) (I : Nat → Shared → Prop) (J : Shared → Prop) (hl : ListJ prog w A (fun e s' => R (.error e) s') l b N I J)
    (fin : ∀ s, I N s → R (.ok (.ret (.bool true))) s) (finJ : ∀ s, J s → R (.ok (.ret (.bool false))) s) (k : Nat) :
    ∀ i : Nat, N - i = k → i ≤ N → ∀ s, I i s →
      wpAny (model prog w) A.in1 (Builtin.«list.__eq__.loop» ⟨[.ref l, .ref b, rawInt i, rawInt 2], []⟩) (GQ.FinOf prog w A R) (fun e s' => R (.error e) s') s := by
  induction k with
  | zero =>
    intro i hk hi s h
    obtain ⟨items, items2, n, n2, hl1, hb1, hs1, hs2, _⟩ := hl.at_ _ _ h
    have hi' : i = N := by omega
    have hR : R (.ok (.ret (.bool true))) s := fin s (hi' ▸ h)
    obtain ⟨hp, g, d, tk, os⟩ := s
    wp_walk using wpAny_loadPart' hl1, wpAny_loadPart' hb1
    have hi1 : items[((i : Nat) : Int).toNat]? = none := by simp; omega
    have hi2 : items2[((i : Nat) : Int).toNat]? = none := by simp; omega
    rw [hi1, hi2]
    wp_walk using wpAny_loadPart' hl1, wpAny_loadPart' hb1
    show R (.ok (.ret (.bool (items.size == items2.size)))) _
    rw [hs1, hs2]
    simpa using hR
  | succ k ih =>
    intro i hk hi s h
    obtain ⟨items, items2, n, n2, hl1, hb1, hs1, hs2, turn⟩ := hl.at_ _ _ h
    have hlt : i < items.size := by omega
    have hlt2 : i < items2.size := by omega
    have ht := turn hlt hlt2
    obtain ⟨hp, g, d, tk, os⟩ := s
    wp_walk using wpAny_loadPart' hl1, wpAny_loadPart' hb1
    have hi1 : items[((i : Nat) : Int).toNat]? = some items[i] := by simp [hlt]
    have hi2 : items2[((i : Nat) : Int).toNat]? = some items2[i] := by simp [hlt2]
    have hc : ((i : Int) + 1) = ((i + 1 : Nat) : Int) := by omega
    rw [hi1, hi2]
    refine wpAny_bind (wpAny_mono ht (fun r s2 h2 => ?_) fun _ _ x => x)
    cases r with
    | true =>
      have hrec := ih (i + 1) (by omega) (by omega) s2 h2
      obtain ⟨hp2, g2, d2, tk2, os2⟩ := s2
      wp_walk
      rw [hc]
      exact ⟨plainId_quiet plain_eq_loop _, codeAny_builtin entry_eq_loop (by
        rw [Around.under_plainId plain_eq_loop _]
        exact hrec)⟩
    | false =>
      have hJ : J s2 := h2
      obtain ⟨its, its2, m, m2, hm1, hm2, z1, z2⟩ := hl.end_ s2 hJ
      have hR := finJ s2 hJ
      obtain ⟨hp2, g2, d2, tk2, os2⟩ := s2
      have hj1 : its[((i : Nat) : Int).toNat]? = some its[i] := by simp [show i < its.size by omega]
      have hj2 : its2[((i : Nat) : Int).toNat]? = some its2[i] := by simp [show i < its2.size by omega]
      wp_walk using wpAny_loadPart' hm1, wpAny_loadPart' hm2
      rw [hj1, hj2]
      wp_walk
      exact hR
theorem listEq (l b : Addr) (N : Nat) (I : Nat → Shared → Prop) (J : Shared → Prop) (hl : ListJ prog w A (fun e s' => R (.error e) s') l b N I J)
    (fin : ∀ s, I N s → R (.ok (.ret (.bool true))) s) (finJ : ∀ s, J s → R (.ok (.ret (.bool false))) s) {s : Shared} (h : I 0 s) :
    wpAny (model prog w) A.in1 (Builtin.«list.__eq__» ⟨[.ref l, .ref b], []⟩) (GQ.FinOf prog w A R) (fun e s' => R (.error e) s') s := by
  obtain ⟨items, items2, n, n2, hl1, hb1, hs1, hs2, _⟩ := hl.at_ _ _ h
  have hrec := loopEq (A := A) (R := R) l b N I J hl fin finJ _ 0 rfl (Nat.zero_le _) s h
  obtain ⟨hp, g, d, tk, os⟩ := s
  have f3 := AutoSeq1.sub_list_list
  have hne : ¬ (items.size != items2.size) = true := by simp [hs1, hs2]
  wp_walk using wpAny_loadPart' hl1, wpAny_loadPart' hb1
  exact ⟨plainId_quiet plain_eq_loop _, codeAny_builtin entry_eq_loop (by
    rw [Around.under_plainId plain_eq_loop _]
    exact hrec)⟩
theorem listLenEq {l b : Addr} {items items2 : Array Value} {n n2 : Nat} (hz : items.size ≠ items2.size) {s : Shared} (hl1 : s.heap.get? l = some { cls := .type "list", data := .seq items n }) (hb1 : s.heap.get? b = some { cls := .type "list", data := .seq items2 n2 })
    (fin : R (.ok (.ret (.bool false))) s) :
    wpAny (model prog w) A.in1 (Builtin.«list.__eq__» ⟨[.ref l, .ref b], []⟩) (GQ.FinOf prog w A R) (fun e s' => R (.error e) s') s := by
  obtain ⟨hp, g, d, tk, os⟩ := s
  have f3 := AutoSeq1.sub_list_list
  have hne : (items.size != items2.size) = true := by simp [hz]
  wp_walk using wpAny_loadPart' hl1, wpAny_loadPart' hb1
  exact fin

/-- list != list: at each turn both lists are read anew: N items each; J: the i-th two were not equal -/
theorem loopNe (l b : Addr) (N : Nat) (I : Nat → Shared → Prop) (J : Shared → Prop) (hl : ListJ prog w A (fun e s' => R (.error e) s') l b N I J)
    (fin : ∀ s, I N s → R (.ok (.ret (.bool false))) s) (finJ : ∀ s, J s → R (.ok (.ret (.bool true))) s) (k : Nat) :
    ∀ i : Nat, N - i = k → i ≤ N → ∀ s, I i s →
      wpAny (model prog w) A.in1 (Builtin.«list.__eq__.loop» ⟨[.ref l, .ref b, rawInt i, rawInt 3], []⟩) (GQ.FinOf prog w A R) (fun e s' => R (.error e) s') s := by
  induction k with
  | zero =>
    intro i hk hi s h
    obtain ⟨items, items2, n, n2, hl1, hb1, hs1, hs2, _⟩ := hl.at_ _ _ h
    have hi' : i = N := by omega
    have hR : R (.ok (.ret (.bool false))) s := fin s (hi' ▸ h)
    obtain ⟨hp, g, d, tk, os⟩ := s
    wp_walk using wpAny_loadPart' hl1, wpAny_loadPart' hb1
    have hi1 : items[((i : Nat) : Int).toNat]? = none := by simp; omega
    have hi2 : items2[((i : Nat) : Int).toNat]? = none := by simp; omega
    rw [hi1, hi2]
    wp_walk using wpAny_loadPart' hl1, wpAny_loadPart' hb1
    show R (.ok (.ret (.bool (items.size != items2.size)))) _
    rw [hs1, hs2]
    simpa using hR
  | succ k ih =>
    intro i hk hi s h
    obtain ⟨items, items2, n, n2, hl1, hb1, hs1, hs2, turn⟩ := hl.at_ _ _ h
    have hlt : i < items.size := by omega
    have hlt2 : i < items2.size := by omega
    have ht := turn hlt hlt2
    obtain ⟨hp, g, d, tk, os⟩ := s
    wp_walk using wpAny_loadPart' hl1, wpAny_loadPart' hb1
    have hi1 : items[((i : Nat) : Int).toNat]? = some items[i] := by simp [hlt]
    have hi2 : items2[((i : Nat) : Int).toNat]? = some items2[i] := by simp [hlt2]
    have hc : ((i : Int) + 1) = ((i + 1 : Nat) : Int) := by omega
    rw [hi1, hi2]
    refine wpAny_bind (wpAny_mono ht (fun r s2 h2 => ?_) fun _ _ x => x)
    cases r with
    | true =>
      have hrec := ih (i + 1) (by omega) (by omega) s2 h2
      obtain ⟨hp2, g2, d2, tk2, os2⟩ := s2
      wp_walk
      rw [hc]
      exact ⟨plainId_quiet plain_eq_loop _, codeAny_builtin entry_eq_loop (by
        rw [Around.under_plainId plain_eq_loop _]
        exact hrec)⟩
    | false =>
      have hJ : J s2 := h2
      obtain ⟨its, its2, m, m2, hm1, hm2, z1, z2⟩ := hl.end_ s2 hJ
      have hR := finJ s2 hJ
      obtain ⟨hp2, g2, d2, tk2, os2⟩ := s2
      have hj1 : its[((i : Nat) : Int).toNat]? = some its[i] := by simp [show i < its.size by omega]
      have hj2 : its2[((i : Nat) : Int).toNat]? = some its2[i] := by simp [show i < its2.size by omega]
      wp_walk using wpAny_loadPart' hm1, wpAny_loadPart' hm2
      rw [hj1, hj2]
      wp_walk
      exact hR
theorem listNe (l b : Addr) (N : Nat) (I : Nat → Shared → Prop) (J : Shared → Prop) (hl : ListJ prog w A (fun e s' => R (.error e) s') l b N I J)
    (fin : ∀ s, I N s → R (.ok (.ret (.bool false))) s) (finJ : ∀ s, J s → R (.ok (.ret (.bool true))) s) {s : Shared} (h : I 0 s) :
    wpAny (model prog w) A.in1 (Builtin.«list.__ne__» ⟨[.ref l, .ref b], []⟩) (GQ.FinOf prog w A R) (fun e s' => R (.error e) s') s := by
  obtain ⟨items, items2, n, n2, hl1, hb1, hs1, hs2, _⟩ := hl.at_ _ _ h
  have hrec := loopNe (A := A) (R := R) l b N I J hl fin finJ _ 0 rfl (Nat.zero_le _) s h
  obtain ⟨hp, g, d, tk, os⟩ := s
  have f3 := AutoSeq1.sub_list_list
  have hne : ¬ (items.size != items2.size) = true := by simp [hs1, hs2]
  wp_walk using wpAny_loadPart' hl1, wpAny_loadPart' hb1
  exact ⟨plainId_quiet plain_eq_loop _, codeAny_builtin entry_eq_loop (by
    rw [Around.under_plainId plain_eq_loop _]
    exact hrec)⟩
theorem listLenNe {l b : Addr} {items items2 : Array Value} {n n2 : Nat} (hz : items.size ≠ items2.size) {s : Shared} (hl1 : s.heap.get? l = some { cls := .type "list", data := .seq items n }) (hb1 : s.heap.get? b = some { cls := .type "list", data := .seq items2 n2 })
    (fin : R (.ok (.ret (.bool true))) s) :
    wpAny (model prog w) A.in1 (Builtin.«list.__ne__» ⟨[.ref l, .ref b], []⟩) (GQ.FinOf prog w A R) (fun e s' => R (.error e) s') s := by
  obtain ⟨hp, g, d, tk, os⟩ := s
  have f3 := AutoSeq1.sub_list_list
  have hne : (items.size != items2.size) = true := by simp [hz]
  wp_walk using wpAny_loadPart' hl1, wpAny_loadPart' hb1
  exact fin
end
end DIQ
end

section
set_option linter.all false
set_option maxRecDepth 100000
set_option maxHeartbeats 2000000
/-! DI.Low3: .. tuples. -/
namespace DIQ
open PySem PySem.SeqAt
open AutoSeq1 (wpAny_loadPart')
open MeetsSeq MeetsSeq2 MeetsSeq3 SeqRoads2
section
variable {prog : Program} {w : World} {A : Around} {R : Result → Shared → Prop}

theorem tupleEq (l b : Addr) (items items2 : Array Value) (n n2 : Nat) (dd dd2 : Option Addr) (sl sl2 : Array (Option Value)) (hsz : items.size = items2.size) (I : Nat → Shared → Prop) (J : Shared → Prop)
    (turn : ∀ i (h1 : i < items.size) (h2 : i < items2.size) s, I i s → wpAny (model prog w) A.in1 (eqBool items[i] items2[i]) (fun r s' => match r with | true => I (i + 1) s' | false => J s') (fun e s' => R (.error e) s') s)
    (fin : ∀ s, I items.size s → R (.ok (.ret (.bool true))) s) (finJ : ∀ s, J s → R (.ok (.ret (.bool false))) s) {s : Shared} (hl1 : s.heap.get? l = some { cls := .type "tuple", dict := dd, data := .seq items n, slots := sl }) (hb1 : s.heap.get? b = some { cls := .type "tuple", dict := dd2, data := .seq items2 n2, slots := sl2 }) (h : I 0 s) :
    wpAny (model prog w) A.in1 (Builtin.«tuple.__eq__» ⟨[.ref l, .ref b], []⟩) (GQ.FinOf prog w A R) (fun e s' => R (.error e) s') s := by
  have f2 := AutoSeq1.sub_tuple_tuple
  have hZ : (items.toList.zip items2.toList).length = items.size := by simp [hsz]
  have h0 := h
  obtain ⟨hp, g, d, tk, os⟩ := s
  wp_walk using wpAny_loadPart' hl1, wpAny_loadPart' hb1, wpAny_forIn_list _ (fun rest b s' => b.1 = none ∧ ∃ i, rest = (items.toList.zip items2.toList).drop i ∧ i ≤ items.size ∧ I i s') _
  case turn =>
    rintro ⟨y, x⟩ rest b s' ⟨hb', i, hz, hi, hI⟩
    · have hlt : i < (items.toList.zip items2.toList).length := by
        rcases Nat.lt_or_ge i (items.toList.zip items2.toList).length with h' | h'
        · exact h'
        · rw [List.drop_of_length_le h'] at hz; cases hz
      have h1 : i < items.size := hZ ▸ hlt
      have h2 : i < items2.size := hsz ▸ h1
      rw [List.drop_eq_getElem_cons hlt] at hz
      injection hz with hyx hrest
      have hy : y = items[i] := by have := congrArg Prod.fst hyx; simpa using this
      have hx : x = items2[i] := by have := congrArg Prod.snd hyx; simpa using this
      subst hy hx
      refine wpAny_bind (wpAny_mono (turn i h1 h2 s' hI) (fun r s2 q2 => ?_) fun _ _ x => x)
      cases r with
      | true =>
        wp_walk
        exact ⟨rfl, i + 1, hrest, h1, q2⟩
      | false =>
        have hR := finJ s2 q2
        wp_walk
        exact hR
  case fin =>
    rintro ⟨b1, b2⟩ s' ⟨hb', i, hz, hi, hI⟩
    · simp only at hb'
      subst hb'
      have hge : items.size ≤ i := by
        rcases Nat.lt_or_ge i (items.toList.zip items2.toList).length with h' | h'
        · rw [List.drop_eq_getElem_cons h'] at hz; cases hz
        · exact hZ ▸ h'
      have hi' : i = items.size := by omega
      have hR : R (.ok (.ret (.bool true))) s' := fin s' (hi' ▸ hI)
      wp_walk
      simpa [Builtin.Tuple.tupleCompareSizes, hsz] using hR
  case h =>
    exact ⟨rfl, 0, rfl, Nat.zero_le _, h0⟩

theorem tupleNe (l b : Addr) (items items2 : Array Value) (n n2 : Nat) (dd dd2 : Option Addr) (sl sl2 : Array (Option Value)) (hsz : items.size = items2.size) (I : Nat → Shared → Prop) (J : Shared → Prop)
    (turn : ∀ i (h1 : i < items.size) (h2 : i < items2.size) s, I i s → wpAny (model prog w) A.in1 (eqBool items[i] items2[i]) (fun r s' => match r with | true => I (i + 1) s' | false => J s') (fun e s' => R (.error e) s') s)
    (fin : ∀ s, I items.size s → R (.ok (.ret (.bool false))) s) (finJ : ∀ s, J s → R (.ok (.ret (.bool true))) s) {s : Shared} (hl1 : s.heap.get? l = some { cls := .type "tuple", dict := dd, data := .seq items n, slots := sl }) (hb1 : s.heap.get? b = some { cls := .type "tuple", dict := dd2, data := .seq items2 n2, slots := sl2 }) (h : I 0 s) :
    wpAny (model prog w) A.in1 (Builtin.«tuple.__ne__» ⟨[.ref l, .ref b], []⟩) (GQ.FinOf prog w A R) (fun e s' => R (.error e) s') s := by
  have f2 := AutoSeq1.sub_tuple_tuple
  have hZ : (items.toList.zip items2.toList).length = items.size := by simp [hsz]
  have h0 := h
  obtain ⟨hp, g, d, tk, os⟩ := s
  wp_walk using wpAny_loadPart' hl1, wpAny_loadPart' hb1, wpAny_forIn_list _ (fun rest b s' => b.1 = none ∧ ∃ i, rest = (items.toList.zip items2.toList).drop i ∧ i ≤ items.size ∧ I i s') _
  case turn =>
    rintro ⟨y, x⟩ rest b s' ⟨hb', i, hz, hi, hI⟩
    · have hlt : i < (items.toList.zip items2.toList).length := by
        rcases Nat.lt_or_ge i (items.toList.zip items2.toList).length with h' | h'
        · exact h'
        · rw [List.drop_of_length_le h'] at hz; cases hz
      have h1 : i < items.size := hZ ▸ hlt
      have h2 : i < items2.size := hsz ▸ h1
      rw [List.drop_eq_getElem_cons hlt] at hz
      injection hz with hyx hrest
      have hy : y = items[i] := by have := congrArg Prod.fst hyx; simpa using this
      have hx : x = items2[i] := by have := congrArg Prod.snd hyx; simpa using this
      subst hy hx
      refine wpAny_bind (wpAny_mono (turn i h1 h2 s' hI) (fun r s2 q2 => ?_) fun _ _ x => x)
      cases r with
      | true =>
        wp_walk
        exact ⟨rfl, i + 1, hrest, h1, q2⟩
      | false =>
        have hR := finJ s2 q2
        wp_walk
        exact hR
  case fin =>
    rintro ⟨b1, b2⟩ s' ⟨hb', i, hz, hi, hI⟩
    · simp only at hb'
      subst hb'
      have hge : items.size ≤ i := by
        rcases Nat.lt_or_ge i (items.toList.zip items2.toList).length with h' | h'
        · rw [List.drop_eq_getElem_cons h'] at hz; cases hz
        · exact hZ ▸ h'
      have hi' : i = items.size := by omega
      have hR : R (.ok (.ret (.bool false))) s' := fin s' (hi' ▸ hI)
      wp_walk
      simpa [Builtin.Tuple.tupleCompareSizes, hsz] using hR
  case h =>
    exact ⟨rfl, 0, rfl, Nat.zero_le _, h0⟩
end
end DIQ
end

section
set_option linter.all false
set_option maxRecDepth 100000
set_option maxHeartbeats 1000000
/-! DI.S4: == and !=. -/
namespace DI
open PySem L2
open PyProof.Rows hiding St
section
variable {X : Cx} {g : G} {lv : Nat}
theorem allP_len {f : D → Option PyData} : ∀ {xs : List D} {ps : List PyData}, allP f xs = some ps → xs.length = ps.length
  | [], ps, h => by cases h; rfl
  | x :: xs, ps, h => by
    simp only [allP] at h
    split at h
    · rename_i p q e1 e2
      cases h
      simp [allP_len e2]
    · cases h
/-- data are seen as the library's own -/
theorem dp_of {mg : Str → Option Value} {K : PySem.W.Frag} {γ : Gh} {m : MS} {H : Hp} (hr : HR mg γ m H) : ∀ (n : Nat) {d : D} {p : PyData} {v : V}, toP n d = some p → RV γ v d → Dp K H v p ∧ p.canLay0 = true ∧ p.depth ≤ n
  | 0, d, p, v, h, r => by simp [toP] at h
  | n + 1, d, p, v, h, r => by
    have all : ∀ {xs : List D} {ps : List PyData} {vs : List V}, allP (toP n) xs = some ps → RVs γ vs xs → DpAll K H vs ps ∧ PyData.canLayAll0 ps = true ∧ PyData.depthAll ps ≤ n := by
      intro xs
      induction xs with
      | nil =>
        intro ps vs h r
        cases h
        cases r
        exact ⟨.nil, by simp [PyData.canLayAll0], by simp [PyData.depthAll]⟩
      | cons x xs ih =>
        intro ps vs h r
        simp only [allP] at h
        split at h
        · rename_i p q e1 e2
          cases h
          cases r with
          | cons r1 r2 =>
            obtain ⟨a1, a2, a3⟩ := dp_of hr n e1 r1
            obtain ⟨b1, b2, b3⟩ := ih e2 r2
            exact ⟨.cons a1 b1, by simp [PyData.canLayAll0, a2, b2], by simp [PyData.depthAll]; omega⟩
        · cases h
    cases d with
    | non => simp only [toP] at h; cases h; cases r; exact ⟨.non, by simp [PyData.canLay0], by simp [PyData.depth]⟩
    | bl b => simp only [toP] at h; cases h; cases r; exact ⟨.bl b, by simp [PyData.canLay0], by simp [PyData.depth]⟩
    | int i => simp only [toP] at h; cases h; cases r; exact ⟨.int i, by simp [PyData.canLay0], by simp [PyData.depth]⟩
    | str x =>
      simp only [toP] at h
      split at h
      · rename_i ok
        cases h
        cases r
        exact ⟨.str x, by simpa [PyData.canLay0] using ok, by simp [PyData.depth]⟩
      · cases h
    | tup xs =>
      simp only [toP, Option.map_eq_some_iff] at h
      obtain ⟨ps, e, rfl⟩ := h
      obtain ⟨a, rfl, ea⟩ := r
      obtain ⟨vs, q, rv⟩ := hr.fr a _ ea
      obtain ⟨b1, b2, b3⟩ := all e rv
      exact ⟨.tup (.inl q) b1, by simpa [PyData.canLay0] using b2, by simp [PyData.depth]; omega⟩
    | lst xs =>
      simp only [toP, Option.map_eq_some_iff] at h
      obtain ⟨ps, e, rfl⟩ := h
      obtain ⟨a, rfl, ea⟩ := r
      obtain ⟨vs, q, rv⟩ := hr.fr a _ ea
      obtain ⟨b1, b2, b3⟩ := all e rv
      exact ⟨.lst (.inl q) b1, by simpa [PyData.canLay0] using b2, by simp [PyData.depth]; omega⟩
    | dct xs => simp [toP] at h
    | obj c fs => simp [toP] at h
    | ref i => simp [toP] at h

/-- behind == or !=: the answer, the heap grown -/
def EqQ (X : Cx) (pins : List (Addr × Obj)) (σ : L2.St) (γ : Gh) (H : Hp) (m : MS) (s' : Shared) : Prop := ∃ γ' H', Inv X pins σ H' s' ∧ Grow γ H γ' H' ∧ HR X.mg γ' m H'
def opN : Bool → CmpOp
  | false => .Eq
  | true => .NotEq
/-- what == of values by the meaning eq does, inside a built-in (A any place below the body) -/
def EqB (X : Cx) (n : Nat) (eq : D → D → MS → Res Bool) : Prop := ∀ (A : Around) (pins : List (Addr × Obj)) (s : Shared) (σ : L2.St) (H : Hp) (γ : Gh) (m m' : MS) (d e : D) (b : Bool) (x y : V) (u v : Value),
  Sub X n A → Inv X pins σ H s → RelV x u → RelV y v → HR X.mg γ m H → RV γ x d → RV γ y e → eq d e m = .ok b m' →
    wpAny (model X.prog X.w) A (eqBool u v) (fun r s' => r = b ∧ EqQ X pins σ γ H m' s') X.xe s
def EqR (X : Cx) (n : Nat) (ne : Bool) (eq : D → D → MS → Res Bool) : Prop := ∀ (A : Around) (pins : List (Addr × Obj)) (s : Shared) (σ : L2.St) (H : Hp) (γ : Gh) (m m' : MS) (d e : D) (b : Bool) (x y : V) (u v : Value),
  Sub X n A → Inv X pins σ H s → RelV x u → RelV y v → HR X.mg γ m H → RV γ x d → RV γ y e → eq d e m = .ok b m' →
    wpAny (model X.prog X.w) A (richCompare (opN ne) u v) (fun r s' => r = .bool (if ne then !b else b) ∧ EqQ X pins σ γ H m' s') X.xe s
theorem EqB.mono {n k : Nat} {eq : D → D → MS → Res Bool} (h : EqB X n eq) (hk : n ≤ k) : EqB X k eq := fun A pins s σ H γ m m' d e b x y u v sb => h A pins s σ H γ m m' d e b x y u v (sb.mono hk)

/-- how far == of two rows has gone: the first i were equal, and what is left is what is asked -/
def Gone (X : Cx) (pins : List (Addr × Obj)) (σ : L2.St) (γ : Gh) (H : Hp) (eq : D → D → MS → Res Bool) (xs ys : List D) (b : Bool) (m' : MS) (i : Nat) (s' : Shared) : Prop :=
  ∃ γ1 H1 m1, Inv X pins σ H1 s' ∧ Grow γ H γ1 H1 ∧ HR X.mg γ1 m1 H1 ∧ eqL eq (xs.drop i) (ys.drop i) m1 = .ok b m'
theorem Gone.turn {n : Nat} {eq : D → D → MS → Res Bool} (h : EqB X n eq) {A : Around} (sb : Sub X (n + 1) A) {pins : List (Addr × Obj)} {σ : L2.St} {γ : Gh} {H : Hp} {xs ys : List D} {b : Bool} {m' : MS} {vs ws : List V} {its its2 : List Value} (rx : RVs γ vs xs) (ry : RVs γ ws ys) (r : Vals vs its) (r2 : Vals ws its2)
    (i : Nat) (h1 : i < its.toArray.size) (h2 : i < its2.toArray.size) (s' : Shared) (gn : Gone X pins σ γ H eq xs ys b m' i s') :
    wpAny (model X.prog X.w) A.in1 (eqBool its.toArray[i] its2.toArray[i]) (fun r s2 => match r with | true => Gone X pins σ γ H eq xs ys b m' (i + 1) s2 | false => b = false ∧ EqQ X pins σ γ H m' s2) X.xe s' := by
  obtain ⟨γ1, H1, m1, I1, g1, hr1, e1⟩ := gn
  have l1 : i < its.length := by simpa using h1
  have l2 : i < its2.length := by simpa using h2
  have q1 : its[i]? = some its.toArray[i] := by rw [List.getElem?_eq_getElem l1]; simp
  have q2 : its2[i]? = some its2.toArray[i] := by rw [List.getElem?_eq_getElem l2]; simp
  have k1 : i < vs.length := by rw [r.length]; exact l1
  have k2 : i < ws.length := by rw [r2.length]; exact l2
  have j1 : i < xs.length := by rw [← rx.length]; exact k1
  have j2 : i < ys.length := by rw [← ry.length]; exact k2
  obtain ⟨u, hu, ru⟩ := r.get (List.getElem?_eq_getElem k1)
  obtain ⟨v, hv, rv⟩ := r2.get (List.getElem?_eq_getElem k2)
  rw [q1] at hu
  rw [q2] at hv
  rw [Option.some.inj hu, Option.some.inj hv]
  obtain ⟨x', hx', rdx⟩ := RVs.get rx (List.getElem?_eq_getElem j1)
  obtain ⟨y', hy', rdy⟩ := RVs.get ry (List.getElem?_eq_getElem j2)
  rw [List.getElem?_eq_getElem k1] at hx'
  rw [List.getElem?_eq_getElem k2] at hy'
  cases hx'
  cases hy'
  rw [List.drop_eq_getElem_cons j1, List.drop_eq_getElem_cons j2] at e1
  simp only [eqL] at e1
  cases e : eq xs[i] ys[i] m1 with
  | ok c m2 =>
    rw [e] at e1
    simp only [Res.bind] at e1
    refine wpAny_mono (h A.in1 pins s' σ H1 γ1 m1 m2 _ _ c _ _ u v sb.in1 I1 ru rv hr1 (rdx.mono g1) (rdy.mono g1) e) (fun r s2 q => ?_) fun _ _ z => z
    obtain ⟨rfl, γ2, H2, I2, g2, hr2⟩ := q
    cases r with
    | true => exact ⟨γ2, H2, m2, I2, g1.trans g2, hr2, by simpa using e1⟩
    | false =>
      simp at e1
      obtain ⟨rfl, rfl⟩ := e1
      exact ⟨rfl, γ2, H2, I2, g1.trans g2, hr2⟩
  | exc x mm => rw [e] at e1; cases e1
  | stuck => rw [e] at e1; cases e1

theorem rc_list {n : Nat} {ne : Bool} {eq : D → D → MS → Res Bool} (h : EqB X n eq) {A : Around} (sb : Sub X (n + 1) A) {pins : List (Addr × Obj)} {s : Shared} {σ : L2.St} {γ : Gh} {H : Hp} {m m' : MS} {xs ys : List D} {b : Bool} {a c : Addr}
    (I : Inv X pins σ H s) (hr : HR X.mg γ m H) (ea : γ.F a = some (.lst xs)) (ec : γ.F c = some (.lst ys)) (hl : xs.length = ys.length) (he : eqL eq xs ys m = .ok b m') :
    wpAny (model X.prog X.w) A (richCompare (opN ne) (.ref a) (.ref c)) (fun r s' => r = .bool (if ne then !b else b) ∧ EqQ X pins σ γ H m' s') X.xe s := by
  obtain ⟨vs, qa, rx⟩ := hr.fr a _ ea
  obtain ⟨ws, qc, ry⟩ := hr.fr c _ ec
  have g0 : Gone X pins σ γ H eq xs ys b m' 0 s := ⟨γ, H, m, I, .refl, hr, by simpa using he⟩
  have na := hr.nas ea
  have nc := hr.nas ec
  -- the lists as they stand at any time
  have lists : ∀ {γ1 : Gh} {H1 : Hp} {s1 : Shared}, Inv X pins σ H1 s1 → Grow γ H γ1 H1 → ∃ its its2 k k2, Vals vs its ∧ Vals ws its2 ∧ s1.heap.get? a = some { cls := .type "list", data := .seq its.toArray k } ∧ s1.heap.get? c = some { cls := .type "list", data := .seq its2.toArray k2 } := fun {γ1 H1 s1} I1 g1 => by
    obtain ⟨_, its, k, r, e⟩ := (Rd.grow g1 qa na).ok I1.hok
    obtain ⟨_, its2, k2, r2, e2⟩ := (Rd.grow g1 qc nc).ok I1.hok
    exact ⟨its, its2, k, k2, r, r2, e, e2⟩
  have hw : ws.length = vs.length := by rw [ry.length, rx.length, hl]
  have LJ : DIQ.ListJ X.prog X.w A X.xe a c vs.length (fun i s' => Gone X pins σ γ H eq xs ys b m' i s') (fun s' => b = false ∧ EqQ X pins σ γ H m' s') := by
    refine ⟨fun i s1 q => ?_, fun s1 q => ?_⟩
    · obtain ⟨γ1, H1, m1, I1, g1, hr1, e1⟩ := id q
      obtain ⟨its, its2, k, k2, r, r2, h1, h2⟩ := lists I1 g1
      refine ⟨its.toArray, its2.toArray, k, k2, h1, h2, by rw [List.size_toArray, ← r.length], by rw [List.size_toArray, ← r2.length, hw], fun l1 l2 => ?_⟩
      exact Gone.turn h sb rx ry r r2 i l1 l2 s1 q
    · obtain ⟨_, γ1, H1, I1, g1, hr1⟩ := q
      obtain ⟨its, its2, k, k2, r, r2, h1, h2⟩ := lists I1 g1
      exact ⟨its.toArray, its2.toArray, k, k2, h1, h2, by rw [List.size_toArray, ← r.length], by rw [List.size_toArray, ← r2.length, hw]⟩
  obtain ⟨its, its2, k, k2, r, r2, h1, h2⟩ := lists I Grow.refl
  have done_ : ∀ s', Gone X pins σ γ H eq xs ys b m' vs.length s' → b = true ∧ EqQ X pins σ γ H m' s' := fun s' q => by
    obtain ⟨γ1, H1, m1, I1, g1, hr1, e1⟩ := q
    rw [List.drop_of_length_le (by rw [rx.length]; exact Nat.le_refl _), List.drop_of_length_le (by rw [rx.length, hl]; exact Nat.le_refl _)] at e1
    simp only [eqL] at e1
    cases e1
    exact ⟨rfl, γ1, H1, I1, g1, hr1⟩
  cases ne with
  | false =>
    refine wpAny_richCompare_same_room (op := .Eq) ⟨_, h1, rfl⟩ ⟨_, h2, rfl⟩ F.slot_list_eq (GQ.call_here F.slot_list_eq ⟨_, h1, rfl⟩ F.entry_list_eq (F.args_list_eq_2 _ _) ?_) sb.room.units0
    refine DIQ.listEq (R := wants (fun v s' => v ≠ .notImplemented ∧ (v = .bool b ∧ EqQ X pins σ γ H m' s')) X.xe) a c vs.length _ _ LJ (fun s' q => ?_) (fun s' q => ?_) g0
    · obtain ⟨e2, q2⟩ := done_ s' q
      exact ⟨(fun x => nomatch x), by subst e2; rfl, q2⟩
    · obtain ⟨rfl, q⟩ := q
      exact ⟨(fun x => nomatch x), rfl, q⟩
  | true =>
    refine wpAny_richCompare_same_room (op := .NotEq) ⟨_, h1, rfl⟩ ⟨_, h2, rfl⟩ F.slot_list_ne (GQ.call_here F.slot_list_ne ⟨_, h1, rfl⟩ F.entry_list_ne (F.args_list_ne_2 _ _) ?_) sb.room.units0
    refine DIQ.listNe (R := wants (fun v s' => v ≠ .notImplemented ∧ (v = .bool (!b) ∧ EqQ X pins σ γ H m' s')) X.xe) a c vs.length _ _ LJ (fun s' q => ?_) (fun s' q => ?_) g0
    · obtain ⟨e2, q2⟩ := done_ s' q
      exact ⟨(fun x => nomatch x), by subst e2; rfl, q2⟩
    · obtain ⟨rfl, q⟩ := q
      exact ⟨(fun x => nomatch x), rfl, q⟩
theorem rc_tup {n : Nat} {ne : Bool} {eq : D → D → MS → Res Bool} (h : EqB X n eq) {A : Around} (sb : Sub X (n + 1) A) {pins : List (Addr × Obj)} {s : Shared} {σ : L2.St} {γ : Gh} {H : Hp} {m m' : MS} {xs ys : List D} {b : Bool} {a c : Addr}
    (I : Inv X pins σ H s) (hr : HR X.mg γ m H) (ea : γ.F a = some (.tup xs)) (ec : γ.F c = some (.tup ys)) (hl : xs.length = ys.length) (he : eqL eq xs ys m = .ok b m') :
    wpAny (model X.prog X.w) A (richCompare (opN ne) (.ref a) (.ref c)) (fun r s' => r = .bool (if ne then !b else b) ∧ EqQ X pins σ γ H m' s') X.xe s := by
  obtain ⟨vs, qa, rx⟩ := hr.fr a _ ea
  obtain ⟨ws, qc, ry⟩ := hr.fr c _ ec
  have g0 : Gone X pins σ γ H eq xs ys b m' 0 s := ⟨γ, H, m, I, .refl, hr, by simpa using he⟩
  have hw : ws.length = vs.length := by rw [ry.length, rx.length, hl]
  obtain ⟨_, its, r, hA⟩ := qa.ok I.hok
  obtain ⟨_, its2, r2, hB⟩ := qc.ok I.hok
  have hsz : its.toArray.size = its2.toArray.size := by rw [List.size_toArray, List.size_toArray, ← r.length, ← r2.length, hw]
  obtain ⟨⟨cls, dd, data, sl⟩, ho, hc, n1, hd⟩ := hA
  obtain ⟨⟨cls2, dd2, data2, sl2⟩, ho2, hc2, n2, hd2⟩ := hB
  simp only at hc hd hc2 hd2
  subst hc hd hc2 hd2
  have done_ : ∀ s', Gone X pins σ γ H eq xs ys b m' its.toArray.size s' → b = true ∧ EqQ X pins σ γ H m' s' := fun s' q => by
    obtain ⟨γ1, H1, m1, I1, g1, hr1, e1⟩ := q
    have hz : xs.length ≤ its.toArray.size := by rw [List.size_toArray, ← r.length, rx.length]; exact Nat.le_refl _
    rw [List.drop_of_length_le hz, List.drop_of_length_le (by rw [← hl]; exact hz)] at e1
    simp only [eqL] at e1
    cases e1
    exact ⟨rfl, γ1, H1, I1, g1, hr1⟩
  cases ne with
  | false =>
    refine wpAny_richCompare_same_room (op := .Eq) ⟨_, ho, rfl⟩ ⟨_, ho2, rfl⟩ F.slot_tuple_eq (GQ.call_here F.slot_tuple_eq ⟨_, ho, rfl⟩ F.entry_tuple_eq (F.args_tuple_eq_2 _ _) ?_) sb.room.units0
    refine DIQ.tupleEq (R := wants (fun v s' => v ≠ .notImplemented ∧ (v = .bool b ∧ EqQ X pins σ γ H m' s')) X.xe) a c its.toArray its2.toArray n1 n2 dd dd2 sl sl2 hsz (fun i s' => Gone X pins σ γ H eq xs ys b m' i s') (fun s' => b = false ∧ EqQ X pins σ γ H m' s')
      (fun i l1 l2 s1 q => Gone.turn h sb rx ry r r2 i l1 l2 s1 q) (fun s' q => ?_) (fun s' q => ?_) ho ho2 g0
    · obtain ⟨e2, q2⟩ := done_ s' q
      exact ⟨(fun x => nomatch x), by subst e2; rfl, q2⟩
    · obtain ⟨rfl, q⟩ := q
      exact ⟨(fun x => nomatch x), rfl, q⟩
  | true =>
    refine wpAny_richCompare_same_room (op := .NotEq) ⟨_, ho, rfl⟩ ⟨_, ho2, rfl⟩ F.slot_tuple_ne (GQ.call_here F.slot_tuple_ne ⟨_, ho, rfl⟩ F.entry_tuple_ne (F.args_tuple_ne_2 _ _) ?_) sb.room.units0
    refine DIQ.tupleNe (R := wants (fun v s' => v ≠ .notImplemented ∧ (v = .bool (!b) ∧ EqQ X pins σ γ H m' s')) X.xe) a c its.toArray its2.toArray n1 n2 dd dd2 sl sl2 hsz (fun i s' => Gone X pins σ γ H eq xs ys b m' i s') (fun s' => b = false ∧ EqQ X pins σ γ H m' s')
      (fun i l1 l2 s1 q => Gone.turn h sb rx ry r r2 i l1 l2 s1 q) (fun s' q => ?_) (fun s' q => ?_) ho ho2 g0
    · obtain ⟨e2, q2⟩ := done_ s' q
      exact ⟨(fun x => nomatch x), by subst e2; rfl, q2⟩
    · obtain ⟨rfl, q⟩ := q
      exact ⟨(fun x => nomatch x), rfl, q⟩
/-- lists of unlike length -/
theorem rc_len {ne : Bool} {A : Around} (hu : A.units < cLine) {pins : List (Addr × Obj)} {s : Shared} {σ : L2.St} {γ : Gh} {H : Hp} {m : MS} {xs ys : List D} {a c : Addr}
    (I : Inv X pins σ H s) (hr : HR X.mg γ m H) (ea : γ.F a = some (.lst xs)) (ec : γ.F c = some (.lst ys)) (hl : xs.length ≠ ys.length) :
    wpAny (model X.prog X.w) A (richCompare (opN ne) (.ref a) (.ref c)) (fun r s' => r = .bool (if ne then !false else false) ∧ EqQ X pins σ γ H m s') X.xe s := by
  obtain ⟨vs, qa, rx⟩ := hr.fr a _ ea
  obtain ⟨ws, qc, ry⟩ := hr.fr c _ ec
  obtain ⟨_, its, k, r, h1⟩ := qa.ok I.hok
  obtain ⟨_, its2, k2, r2, h2⟩ := qc.ok I.hok
  have hsz : its.toArray.size ≠ its2.toArray.size := by rw [List.size_toArray, List.size_toArray, ← r.length, ← r2.length, rx.length, ry.length]; exact hl
  cases ne with
  | false =>
    refine wpAny_richCompare_same_room (op := .Eq) ⟨_, h1, rfl⟩ ⟨_, h2, rfl⟩ F.slot_list_eq (GQ.call_here F.slot_list_eq ⟨_, h1, rfl⟩ F.entry_list_eq (F.args_list_eq_2 _ _) ?_) hu
    exact DIQ.listLenEq (R := wants (fun v s' => v ≠ .notImplemented ∧ (v = .bool false ∧ EqQ X pins σ γ H m s')) X.xe) hsz h1 h2 ⟨(fun x => nomatch x), rfl, γ, H, I, .refl, hr⟩
  | true =>
    refine wpAny_richCompare_same_room (op := .NotEq) ⟨_, h1, rfl⟩ ⟨_, h2, rfl⟩ F.slot_list_ne (GQ.call_here F.slot_list_ne ⟨_, h1, rfl⟩ F.entry_list_ne (F.args_list_ne_2 _ _) ?_) hu
    exact DIQ.listLenNe (R := wants (fun v s' => v ≠ .notImplemented ∧ (v = .bool true ∧ EqQ X pins σ γ H m s')) X.xe) hsz h1 h2 ⟨(fun x => nomatch x), rfl, γ, H, I, .refl, hr⟩
/-- an own class's == -/
theorem rc_obj (o : Ok0 g lv X.prog X.w X.K X.mg X.base) {ne : Bool} {A : Around} (sb : Sub X (lv + 1) A) {pins : List (Addr × Obj)} {s : Shared} {σ : L2.St} {γ : Gh} {H : Hp} {m m' : MS} {c : Nat} {fs : List (Str × D)} {e : D} {f : Sem} {b : Bool} {x y : V} {u v : Value}
    (I : Inv X pins σ H s) (rx : RelV x u) (ry : RelV y v) (hr : HR X.mg γ m H) (rd : RV γ x (.obj c fs)) (re : RV γ y e) (hne : ∀ i, e ≠ .ref i) (hf : g.eq.lookup c = some f) (he : f [.obj c fs, e] m = .ok (.bl b) m') :
    wpAny (model X.prog X.w) A (richCompare (opN ne) u v) (fun r s' => r = .bool (if ne then !b else b) ∧ EqQ X pins σ γ H m' s') X.xe s := by
  obtain ⟨⟨C, fa, hC, M, R⟩, hN, _, _⟩ := o.eq c f hf
  obtain ⟨a, C', dx, fw, od, rfl, hC', ha, rk, J⟩ := ins_at I hr rd
  rw [hC] at hC'
  cases hC'
  cases rx
  have cf := o.cls c C hC
  obtain ⟨mf, fr⟩ := I.fr
  obtain ⟨t, ht, ty⟩ := tyX_of o hr re hne
  have nf := notFirst_of o hC ht
  have lt := looks_ty I ry ty
  have run : ∀ {A : Around}, Sub X lv A → wpAny (model X.prog X.w) A (call (.ref fa) [.ref a, v]) (EP X pins σ (fun z H' => z = .bl b ∧ ∃ γ', Grow γ H γ' H' ∧ HR X.mg γ' m' H')) X.xe s := fun {A} sb' => by
    refine R X rfl rfl rfl rfl rfl A sb' pins s σ H [.ref a, v] [] [.ref a, y] [] _ (fun _ _ _ => False) γ [.obj c fs, e] m I (fun pins H s e s' I z => passL pins σ H s e s' I z) rfl rfl (.cons rfl (.cons ry .nil)) .nil hr (.cons rd (.cons re .nil)) ?_
    rw [he]
    exact fun γ' z H' g1 hr1 rz => ⟨rz, γ', g1, hr1⟩
  cases ne with
  | false =>
    refine PySem.W.cmp_K (op := .Eq) sb.room.units0 fr I.ok.mod.kin J lt nf M.at_ M.fn (wpAny_mono (run (sb.mono (Nat.le_succ _))) (fun r s' z => ?_) fun _ _ z => z)
    obtain ⟨z, H', I', rz, ez, γ', g1, hr1⟩ := z
    subst ez
    cases rz
    exact ⟨rfl, γ', H', I', g1, hr1⟩
  | true =>
    refine PySem.W.ne_K (hu_of sb.room.toRoom) fr I.ok.mod.kin J lt nf M.at_ M.fn (hN C hC) cf.hm (wpAny_mono (run (A := A.in1) sb.in1) (fun r s' z => ?_) fun _ _ z => z)
    obtain ⟨z, H', I', rz, ez, γ', g1, hr1⟩ := z
    subst ez
    cases rz
    exact ⟨b, rfl, rfl, γ', H', I', g1, hr1⟩

/-- == with itself -/
theorem eqL_refl {eq : D → D → MS → Res Bool} : ∀ {xs : List D} {m m' : MS} {b : Bool}, (∀ x ∈ xs, ∀ m m' b, eq x x m = .ok b m' → b = true ∧ m' = m) → eqL eq xs xs m = .ok b m' → b = true ∧ m' = m
  | [], m, m', b, _, h => by simp only [eqL] at h; cases h; exact ⟨rfl, rfl⟩
  | x :: xs, m, m', b, hx, h => by
    simp only [eqL] at h
    cases e : eq x x m with
    | ok c m1 =>
      obtain ⟨rfl, rfl⟩ := hx x (by simp) _ _ _ e
      rw [e] at h
      simp only [Res.bind, if_true] at h
      exact eqL_refl (fun y hy => hx y (by simp [hy])) h
    | exc _ _ => rw [e] at h; cases h
    | stuck => rw [e] at h; cases h
theorem toP_ok : ∀ (n : Nat) {d : D} {p : PyData}, toP n d = some p → p.canLay0 = true
  | 0, d, p, h => by simp [toP] at h
  | n + 1, d, p, h => by
    have all : ∀ {xs : List D} {ps : List PyData}, allP (toP n) xs = some ps → PyData.canLayAll0 ps = true := by
      intro xs
      induction xs with
      | nil => intro ps h; cases h; simp [PyData.canLayAll0]
      | cons x xs ih =>
        intro ps h
        simp only [allP] at h
        split at h
        · rename_i p q e1 e2
          cases h
          simp [PyData.canLayAll0, toP_ok n e1, ih e2]
        · cases h
    cases d with
    | non => simp only [toP] at h; cases h; simp [PyData.canLay0]
    | bl b => simp only [toP] at h; cases h; simp [PyData.canLay0]
    | int i => simp only [toP] at h; cases h; simp [PyData.canLay0]
    | str x =>
      simp only [toP] at h
      split at h
      · rename_i ok; cases h; simpa [PyData.canLay0] using ok
      · cases h
    | tup xs =>
      simp only [toP, Option.map_eq_some_iff] at h
      obtain ⟨ps, e, rfl⟩ := h
      simpa [PyData.canLay0] using all e
    | lst xs =>
      simp only [toP, Option.map_eq_some_iff] at h
      obtain ⟨ps, e, rfl⟩ := h
      simpa [PyData.canLay0] using all e
    | dct xs => simp [toP] at h
    | obj c fs => simp [toP] at h
    | ref i => simp [toP] at h
theorem eqD_refl (o : Ok0 g lv X.prog X.w X.K X.mg X.base) : ∀ (n : Nat) (d : D) (m m' : MS) (b : Bool), eqD g n d d m = .ok b m' → b = true ∧ m' = m
  | 0, d, m, m', b, h => by simp [eqD] at h
  | n + 1, d, m, m', b, h => by
    unfold eqD at h
    split at h
    · rename_i p q e1 e2
      rw [e1] at e2
      cases e2
      cases h
      exact ⟨SeqAt.eqv_refl _ (toP_ok _ e1), rfl⟩
    · cases d with
      | tup xs =>
        simp only [if_true] at h
        exact eqL_refl (fun x _ => eqD_refl o n x) h
      | lst xs =>
        simp only [if_true] at h
        exact eqL_refl (fun x _ => eqD_refl o n x) h
      | obj c fs =>
        simp only at h
        split at h
        · rename_i f hf
          obtain ⟨_, _, hr, _⟩ := o.eq c f hf
          have q := hr fs m _ rfl
          cases hv : f [.obj c fs, .obj c fs] m with
          | ok d1 m1 =>
            rw [hv] at q h
            have q := q (fun z => nomatch z)
            cases q
            simp only [askB] at h
            cases h
            exact ⟨rfl, rfl⟩
          | exc _ _ => rw [hv] at h; cases h
          | stuck => rw [hv] at h; cases h
        · cases h
      | _ => simp at h
/-- == inside lists and tuples, and by itself -/
theorem eq_run (o : Ok0 g lv X.prog X.w X.K X.mg X.base) : ∀ n : Nat, EqB X (lv + n + 1) (eqD g n) ∧ ∀ ne, EqR X (lv + n + 1) ne (eqD g n)
  | 0 => ⟨fun A pins s σ H γ m m' d e b x y u v _ _ _ _ _ _ _ h => by simp [eqD] at h, fun ne A pins s σ H γ m m' d e b x y u v _ _ _ _ _ _ _ h => by simp [eqD] at h⟩
  | n + 1 => by
    have ih := eq_run o n
    have rich : ∀ ne, EqR X (lv + (n + 1) + 1) ne (eqD g (n + 1)) := by
      intro ne A pins s σ H γ m m' d e b x y u v sb I rx ry hr rd re h
      unfold eqD at h
      split at h
      · rename_i p q e1 e2
        cases h
        obtain ⟨d1, l1, z1⟩ := dp_of hr 9 e1 rd
        obtain ⟨d2, l2, z2⟩ := dp_of hr 9 e2 re
        obtain ⟨as, r1⟩ := Dp.reads I p x u d1 rx
        obtain ⟨bs, r2⟩ := Dp.reads I q y v d2 ry
        have s1 : SeqAt.shaped p = true := by simp [SeqAt.shaped, l1]; omega
        have s2 : SeqAt.shaped q = true := by simp [SeqAt.shaped, l2]; omega
        have hu : A.units + 64 < cLine := by have := sb.room.un; omega
        cases ne with
        | false => exact SeqAt.compareEq_shaped r1 r2 s1 s2 hu ⟨rfl, γ, H, I, .refl, hr⟩
        | true => exact SeqAt.compareNe_shaped r1 r2 s1 s2 hu ⟨rfl, γ, H, I, .refl, hr⟩
      · have own : ∀ (c : Nat) (fs : List (Str × D)), d = .obj c fs → (∀ i, e ≠ .ref i) → (match g.eq.lookup c with | some f => askB (f [.obj c fs, e] m) | none => (.stuck : Res Bool)) = .ok b m' →
            wpAny (model X.prog X.w) A (richCompare (opN ne) u v) (fun r s' => r = .bool (if ne then !b else b) ∧ EqQ X pins σ γ H m' s') X.xe s := by
          intro c fs ed ne' h2
          clear h
          subst ed
          cases hf : g.eq.lookup c with
          | none => rw [hf] at h2; cases h2
          | some f =>
            rw [hf] at h2
            simp only at h2
            cases hv : f [.obj c fs, e] m with
            | ok d1 m1 =>
              rw [hv] at h2
              cases d1 with
              | bl k =>
                simp only [askB] at h2
                cases h2
                exact rc_obj o (sb.mono (by omega)) I rx ry hr rd re ne' hf hv
              | _ => simp [askB] at h2
            | exc _ _ => rw [hv] at h2; simp [askB] at h2
            | stuck => rw [hv] at h2; simp [askB] at h2
        cases d with
        | tup xs =>
          cases e with
          | tup ys =>
            simp only at h
            split at h
            · rename_i hl
              obtain ⟨a, rfl, ea⟩ := rd
              obtain ⟨c, rfl, ec⟩ := re
              cases rx
              cases ry
              exact rc_tup ih.1 sb I hr ea ec hl h
            · cases h
          | _ => simp at h
        | lst xs =>
          cases e with
          | lst ys =>
            simp only at h
            obtain ⟨a, rfl, ea⟩ := rd
            obtain ⟨c, rfl, ec⟩ := re
            cases rx
            cases ry
            split at h
            · rename_i hl
              exact rc_list ih.1 sb I hr ea ec hl h
            · rename_i hl
              cases h
              exact rc_len sb.room.units0 I hr ea ec hl
          | _ => simp at h
        | obj c fs =>
          cases e with
          | ref i => simp at h
          | _ => exact own c fs rfl (fun _ z => nomatch z) h
        | _ => simp at h
    refine ⟨?_, rich⟩
    intro A pins s σ H γ m m' d e b x y u v sb I rx ry hr rd re h
    by_cases dat : ∃ p q, toP 9 d = some p ∧ toP 9 e = some q
    · obtain ⟨p, q, e1, e2⟩ := dat
      unfold eqD at h
      rw [e1, e2] at h
      cases h
      obtain ⟨d1, l1, z1⟩ := dp_of hr 9 e1 rd
      obtain ⟨d2, l2, z2⟩ := dp_of hr 9 e2 re
      obtain ⟨as, r1⟩ := Dp.reads I p x u d1 rx
      obtain ⟨bs, r2⟩ := Dp.reads I q y v d2 ry
      have hu : A.units + min p.depth q.depth < cLine := by
        have := sb.room.un
        have h2 : min p.depth q.depth ≤ p.depth := Nat.min_le_left _ _
        omega
      exact SeqAt.eqBoolOverData X.prog X.w A X.xe s u v p q as bs _ r1 r2 l1 l2 hu ⟨rfl, γ, H, I, .refl, hr⟩
    · -- not both data: x is an object
      have hx : (∃ a, x = .ref a ∧ γ.F a = some d) ∧ ∀ i, e ≠ .ref i := by
        unfold eqD at h
        split at h
        · rename_i p q e1 e2
          exact absurd ⟨p, q, e1, e2⟩ dat
        cases d with
        | tup xs =>
          obtain ⟨a, hx, ea⟩ := rd
          refine ⟨⟨a, hx, ea⟩, fun i z => ?_⟩
          subst z
          simp at h
        | lst xs =>
          obtain ⟨a, hx, ea⟩ := rd
          refine ⟨⟨a, hx, ea⟩, fun i z => ?_⟩
          subst z
          simp at h
        | obj c fs =>
          obtain ⟨a, hx, ea⟩ := rd
          refine ⟨⟨a, hx, ea⟩, fun i z => ?_⟩
          subst z
          simp at h
        | _ => simp at h
      obtain ⟨⟨a, rfl, ea⟩, hne⟩ := hx
      cases rx
      by_cases sm : y = .ref a
      · subst sm
        cases ry
        have hde : d = e := by
          have ee : γ.F a = some e := by
            cases e with
            | non => cases re
            | bl b => cases re
            | int i => cases re
            | str x => cases re
            | ref i => exact absurd rfl (hne i)
            | tup xs => obtain ⟨_, z, q⟩ := re; cases z; exact q
            | lst xs => obtain ⟨_, z, q⟩ := re; cases z; exact q
            | dct xs => obtain ⟨_, z, q⟩ := re; cases z; exact q
            | obj c fs => obtain ⟨_, z, q⟩ := re; cases z; exact q
          rw [ea] at ee
          exact Option.some.inj ee
        subst hde
        obtain ⟨rfl, rfl⟩ := eqD_refl o _ _ _ _ _ h
        exact SeqAt.EqAt.same (A := A) (s := s) (.ref a) X.prog X.w X.xe _ ⟨rfl, γ, H, I, .refl, hr⟩
      · have hv : (Value.ref a == v) = false := by
          cases y with
          | ref c => cases ry; simpa using fun z : a = c => sm (by rw [z])
          | non => cases ry; rfl
          | bl b => cases ry; rfl
          | int i => obtain ⟨t, rfl⟩ := ry; rfl
          | str x => obtain ⟨t, rfl⟩ := ry; rfl
          | byt x => obtain ⟨t, rfl⟩ := ry; rfl
          | flt x => obtain ⟨t, rfl⟩ := ry; rfl
          | ty n => cases ry; rfl
        unfold eqBool
        refine wpAny_holding ?_
        rw [hv]
        refine wpAny_ite_split (fun z => absurd z Bool.false_ne_true) fun _ => ?_
        refine wpAny_bind (wpAny_mono (rich false A pins s σ H γ m m' d e b (.ref a) y _ _ sb I rfl ry hr rd re h) (fun r s' q => ?_) fun _ _ z => z)
        obtain ⟨rfl, q⟩ := q
        exact wpAny_truthy_bool ⟨rfl, q⟩
end
end DI
end

section
set_option linter.all false
set_option maxRecDepth 100000
set_option maxHeartbeats 1000000
/-! DI.S5: comparisons, tests. -/
namespace DI
open PySem L2
open PyProof.Rows hiding St
def copOf : Cop → CmpOp
  | .eq => .Eq | .ne => .NotEq | .lt => .Lt | .le => .LtE | .gt => .Gt | .ge => .GtE | .in_ => .In | .nin => .NotIn
section
variable {X : Cx} {g : G} {W : WX} {xi : XI} {lv : Nat} {a b c : Expr} {ta tb : TE} {pos : Pos}
theorem pe_cmpS {op : CmpOp} {r : L2.St → V → V → Hp → VK → Prop} (ho : OpS X (compareOp op) r) (ha : PE X a ta) (hb : PE X b tb) (hm : behindInMarks op b = false) :
    PE X (.Compare a [op] [b] pos) (fun σ H Q => ta σ H fun x H1 => tb σ H1 fun y H2 => r σ x y H2 Q) := by
  refine ⟨fun pins s σ H Q I h => ?_⟩
  exact wpAny_Compare1 (binT ha hb I h fun v u s2 x y H2 I2 rx ry q => ho pins s2 σ H2 x y v u Q I2 rx ry q) hm
theorem pt_cmpS {op : CmpOp} {r : L2.St → V → V → Hp → VK → Prop} (ho : OpS X (compareOp op) r) (ha : PE X a ta) (hb : PE X b tb) (hm : behindInMarks op b = false) :
    PT X (.Compare a [op] [b] pos) (fun σ H Q => ta σ H fun x H1 => tb σ H1 fun y H2 => r σ x y H2 fun z H' => ∃ k, z = .bl k ∧ Q k H') := by
  refine ⟨fun pins s σ H Q I h => ?_⟩
  refine wpAny_isTrue_Compare1 (thn (ha.run pins s σ H _ I h) fun v s1 ⟨x, H1, I1, r1, q1⟩ => thn (hb.run pins s1 σ H1 _ I1 q1) fun u s2 ⟨y, H2, I2, r2, q2⟩ =>
    thn (ho pins s2 σ H2 x y v u _ I2 r1 r2 q2) fun c s3 ⟨z, H3, I3, r3, k, e, q3⟩ => ?_) hm
  subst e
  cases r3
  exact wpAny_truthy_bool ⟨H3, I3, q3⟩
theorem rc_is {op : CmpOp} (h : op = .Eq ∨ op = .NotEq ∨ op = .Lt ∨ op = .LtE) (a b : Value) : compareOp op a b = richCompare op a b := by
  rcases h with rfl | rfl | rfl | rfl <;> rfl
/-- what == and != tell -/
theorem op_eqne (o : Ok0 g lv X.prog X.w X.K X.mg X.base) (hroom : Room (lv + 8) X.A) {ne : Bool} {pins : List (Addr × Obj)} {s : Shared} {σ : L2.St} {H : Hp} {x y : V} {v u : Value} {Q : VK} {γ : Gh} {d e : D} {m : MS} {E : XK}
    (I : Inv X pins σ H s) (rx : RelV x v) (ry : RelV y u) (hr : HR X.mg γ m H) (rd : RV γ x d) (re : RV γ y e)
    (h : Post RV X.mg E γ H (match eqD g eqFuel d e m with | .ok b m => (.ok (.bl (if ne then !b else b)) m : Res D) | _ => .stuck) Q) : wpAny (model X.prog X.w) X.A (compareOp (opN ne) v u) (EP X pins σ Q) X.xe s := by
  cases he : eqD g eqFuel d e m with
  | ok b m1 =>
    rw [he] at h
    rw [show compareOp (opN ne) v u = richCompare (opN ne) v u from by cases ne <;> rfl]
    refine wpAny_mono ((eq_run o eqFuel).2 ne X.A pins s σ H γ m m1 d e b x y v u ⟨hroom.mono (by unfold eqFuel; omega), rfl⟩ I rx ry hr rd re he) (fun r s' q => ?_) fun _ _ z => z
    obtain ⟨rfl, γ', H', I', g1, hr1⟩ := q
    exact ⟨.bl _, H', I', rfl, h γ' _ H' g1 hr1 rfl⟩
  | exc _ _ => rw [he] at h; exact h.elim
  | stuck => rw [he] at h; exact h.elim
theorem flat_of {γ : Gh} {x : V} {d : D} {v : V} (r : RV γ x d) (h : toV d = some v) : x = v ∧ flatV v = true := by
  cases d with
  | non => cases h; exact ⟨r, rfl⟩
  | bl b => cases h; exact ⟨r, rfl⟩
  | int i => cases h; exact ⟨r, rfl⟩
  | str s => cases h; exact ⟨r, rfl⟩
  | _ => cases h
theorem flats_of {γ : Gh} : ∀ {xs : List V} {ds : List D} {vs : List V}, RVs γ xs ds → ds.mapM toV = some vs → xs = vs ∧ vs.all flatV = true
  | _, _, vs, .nil, h => by
    simp at h
    subst h
    exact ⟨rfl, rfl⟩
  | _, _, vs, .cons (b := d) (l₂ := ds) r t, h => by
    rw [List.mapM_cons] at h
    cases e1 : toV d with
    | none => rw [e1] at h; simp at h
    | some v =>
      cases e2 : List.mapM toV ds with
      | none => rw [e1, e2] at h; simp at h
      | some ws =>
        rw [e1, e2] at h
        simp at h
        subst h
        obtain ⟨h1, h2⟩ := flat_of r e1
        obtain ⟨h3, h4⟩ := flats_of t e2
        exact ⟨by rw [h1, h3], by simp [h2, h4]⟩
theorem keyD_rv {γ : Gh} {x : V} {d : D} {k : Key} (r : RV γ x d) (h : keyD d = some k) : x = kV k := by
  cases d with
  | int i => cases h; exact r
  | str s => cases h; exact r
  | _ => cases h
theorem look_rv {γ : Gh} {kw : List (Key × V)} {kvs : List (Key × D)} (r : RK γ kw kvs) (k : Key) : (∀ d, look kvs k = some d → ∃ v, valV kw k = some v ∧ RV γ v d) ∧ (look kvs k = none → valV kw k = none) := by
  induction r with
  | nil => exact ⟨fun d h => by simp [look] at h, fun _ => rfl⟩
  | @cons p q ps qs h t ih =>
    obtain ⟨pk, pv⟩ := p
    obtain ⟨qk, qv⟩ := q
    obtain ⟨h1, h2⟩ := h
    simp only at h1 h2
    subst h1
    by_cases e : pk = k
    · refine ⟨fun d hd => ⟨pv, ?_, ?_⟩, fun hn => ?_⟩
      · simp [valV, List.find?_cons, e]
      · simp [look, List.find?_cons, e] at hd
        subst hd
        exact h2
      · simp [look, List.find?_cons, e] at hn
    · have e1 : look ((pk, qv) :: qs) k = look qs k := by simp [look, List.find?_cons, e]
      have e2 : valV ((pk, pv) :: ps) k = valV ps k := by simp [valV, List.find?_cons, e]
      rw [e1, e2]
      exact ih
end
end DI
end

section
set_option linter.all false
set_option maxRecDepth 100000
set_option maxHeartbeats 1000000
/-! DI.S6: in, subscripts, fields. -/
namespace DI
open PySem L2
open PyProof.Rows hiding St
section
variable {mg : Str → Option Value} {γ : Gh} {m : MS} {H : Hp}
/-- a list, known or a cell -/
theorem inner_lst (hr : HR mg γ m H) {v : V} {d : D} {ys : List D} (r : RV γ v d) (h : inner m d = .lst ys) : ∃ a vs, v = .ref a ∧ Rd H a (.lst vs) ∧ RVs γ vs ys := by
  cases d with
  | lst xs =>
    cases h
    obtain ⟨a, e, q⟩ := r
    obtain ⟨vs, q1, q2⟩ := hr.fr a _ q
    exact ⟨a, vs, e, q1, q2⟩
  | ref i =>
    simp only [inner] at h
    split at h
    · rename_i xs e
      cases h
      obtain ⟨a, e1, _, vs, q1, q2⟩ := hr.cell e r
      exact ⟨a, vs, e1, .inl q1, q2⟩
    · cases h
    · cases h
  | _ => simp [inner] at h
theorem inner_dct (hr : HR mg γ m H) {v : V} {d : D} {ys : List (Key × D)} (r : RV γ v d) (h : inner m d = .dct ys) : ∃ a vs, v = .ref a ∧ Rd H a (.dK vs) ∧ RK γ vs ys := by
  cases d with
  | dct xs =>
    cases h
    obtain ⟨a, e, q⟩ := r
    obtain ⟨o, vs, q1, q2⟩ := hr.fr a _ q
    exact ⟨a, vs, e, .inr ⟨o, q1⟩, q2⟩
  | ref i =>
    simp only [inner] at h
    split at h
    · cases h
    · rename_i xs e
      cases h
      obtain ⟨a, e1, _, vs, q1, q2⟩ := hr.cell e r
      exact ⟨a, vs, e1, .inl q1, q2⟩
    · cases h
  | _ => simp [inner] at h
theorem inner_tup (hr : HR mg γ m H) {v : V} {d : D} {ys : List D} (r : RV γ v d) (h : inner m d = .tup ys) : ∃ a vs, v = .ref a ∧ Rd H a (.tup vs) ∧ RVs γ vs ys := by
  cases d with
  | tup xs =>
    cases h
    obtain ⟨a, e, q⟩ := r
    obtain ⟨vs, q1, q2⟩ := hr.fr a _ q
    exact ⟨a, vs, e, q1, q2⟩
  | ref i =>
    simp only [inner] at h
    split at h <;> cases h
  | _ => simp [inner] at h
theorem inner_str {v : V} {d : D} {z : Str} (r : RV γ v d) (h : inner m d = .str z) : v = .str z := by
  cases d with
  | str x => cases h; exact r
  | ref i =>
    simp only [inner] at h
    split at h <;> cases h
  | _ => simp [inner] at h
theorem atI_rv {i : Int} {d : D} {vs : List V} {ds : List D} (r : RVs γ vs ds) (h : atI ds i = some d) : ∃ v, atI vs i = some v ∧ RV γ v d := by
  unfold atI at h ⊢
  rw [r.length]
  cases e : ixN ds.length i with
  | none => rw [e] at h; cases h
  | some j =>
    rw [e] at h
    exact RVs.get r (by simpa using h)
theorem inD_bool {X : Cx} (hu : X.A.units + 1 < cLine) {ng : Bool} {pins : List (Addr × Obj)} {s : Shared} {σ : L2.St} {x y : V} {v u : Value} {Q : VK} {d e : D} {b : Bool} (I : Inv X pins σ H s) (rx : RelV x v) (ry : RelV y u) (hr : HR X.mg γ m H) (rd : RV γ x d) (re : RV γ y e)
    (h : inD d e m = some b) (q : Q (.bl (if ng then !b else b)) H) : wpAny (model X.prog X.w) X.A (compareOp (if ng then .NotIn else .In) v u) (EP X pins σ Q) X.xe s := by
  unfold inD at h
  split at h
  · rename_i kvs hk
    obtain ⟨a, kw, rfl, ra, rk⟩ := inner_dct hr re hk
    cases ry
    cases hd : keyD d with
    | none => rw [hd] at h; cases h
    | some k =>
      rw [hd] at h
      simp at h
      have hx := keyD_rv rd hd
      subst hx
      obtain ⟨l1, l2⟩ := look_rv rk k
      have hb : (valV kw k).isSome = b := by
        rw [← h]
        cases e : look kvs k with
        | none => rw [l2 e]; rfl
        | some d' =>
          obtain ⟨v', e', _⟩ := l1 d' e
          rw [e']
          rfl
      have dg : DGet H a (kV k) (valV kw k) := .inl ⟨kw, k, ra, rfl, rfl⟩
      cases ng with
      | false => exact d_in hu I dg rx fun s' I' => ⟨.bl _, H, I', rfl, by rw [hb]; exact q⟩
      | true => exact d_notIn hu I dg rx fun s' I' => ⟨.bl _, H, I', rfl, by rw [hb]; exact q⟩
  · rename_i ys hk
    split at h
    · rename_i w ws e1 e2
      cases h
      obtain ⟨a, vs, rfl, ra, rv⟩ := inner_lst hr re hk
      obtain ⟨rfl, f1⟩ := flat_of rd e1
      obtain ⟨rfl, f2⟩ := flats_of rv e2
      cases ng with
      | false => exact op_in_seq pins s σ H _ _ v u Q I rx ry ⟨a, _, rfl, .inl (.inl ra), f1, f2, q⟩
      | true => exact op_notIn_seq pins s σ H _ _ v u Q I rx ry ⟨a, _, rfl, .inl (.inl ra), f1, f2, q⟩
    · cases h
  · rename_i ys hk
    split at h
    · rename_i w ws e1 e2
      cases h
      obtain ⟨a, vs, rfl, ra, rv⟩ := inner_tup hr re hk
      obtain ⟨rfl, f1⟩ := flat_of rd e1
      obtain ⟨rfl, f2⟩ := flats_of rv e2
      cases ng with
      | false => exact op_in_seq pins s σ H _ _ v u Q I rx ry ⟨a, _, rfl, .inr (.inl ra), f1, f2, q⟩
      | true => exact op_notIn_seq pins s σ H _ _ v u Q I rx ry ⟨a, _, rfl, .inr (.inl ra), f1, f2, q⟩
    · cases h
  · rename_i z hk
    have hy := inner_str re hk
    subst hy
    split at h
    · rename_i w
      split at h
      · rename_i c hc
        cases h
        have hx : x = .str w := rd
        have hw : w = ⟨#[c]⟩ := by
          cases w with
          | mk a => simp only at hc; rw [← Array.toArray_toList (xs := a), hc]
        subst hw
        subst hx
        cases ng with
        | false => exact op_in_sign pins s σ H _ _ v u Q I rx ry ⟨c, z, rfl, rfl, q⟩
        | true => exact op_notIn_sign pins s σ H _ _ v u Q I rx ry ⟨c, z, rfl, rfl, q⟩
      · cases h
    · cases h
  · cases h
end
section
variable {X : Cx} {g : G} {W : WX} {xi : XI} {lv : Nat}
theorem op_cmp (o : Ok0 g lv X.prog X.w X.K X.mg X.base) (hroom : Room (lv + 8) X.A) (tk : Takes X W) (op : Cop) : OpS X (compareOp (copOf op)) (rD X.mg W (cmpD g op)) := by
  intro pins s σ H x y v u Q I rx ry h
  obtain ⟨γ, d, e, m, hr, rd, re, h⟩ := h
  have hu := hu_of hroom.toRoom
  have ord : ∀ {p : Int → Int → Bool}, (∀ (i j : Int) (t t' : Tok) (s : Shared) (Q E : Value → Shared → Prop), Q (.bool (p i j)) s → wpAny (model X.prog X.w) X.A (compareOp (copOf op) (.int i t) (.int j t')) Q E s) →
      ∀ i j, d = .int i → e = .int j → Post RV X.mg (fun c dd H' => W c dd σ H') γ H (.ok (.bl (p i j)) m) Q → wpAny (model X.prog X.w) X.A (compareOp (copOf op) v u) (EP X pins σ Q) X.xe s := fun {p} rule i j hd he h2 => by
    clear h
    subst hd
    subst he
    have hx : x = .int i := rd
    have hy : y = .int j := re
    subst hx
    subst hy
    obtain ⟨t, rfl⟩ := rx
    obtain ⟨t', rfl⟩ := ry
    exact rule i j t t' s _ _ ⟨.bl _, H, I, rfl, h2 γ _ H .refl hr rfl⟩
  have own : ∀ c fs f, d = .obj c fs → (∀ i, e ≠ .ref i) → (op = .lt ∨ op = .le) → (ltTab g op).lookup c = some f → Post RV X.mg (fun c dd H' => W c dd σ H') γ H (f [.obj c fs, e] m) Q → wpAny (model X.prog X.w) X.A (compareOp (copOf op) v u) (EP X pins σ Q) X.xe s := fun c fs f hd hne hop hf h2 => by
    clear h
    subst hd
    obtain ⟨C, fa, hC, M, R⟩ := o.cop op c f hf
    obtain ⟨a, C', dx, fw, od, rfl, hC', ha, rk, J⟩ := ins_at I hr rd
    rw [hC] at hC'
    cases hC'
    cases rx
    obtain ⟨mf, fr⟩ := I.fr
    obtain ⟨t, ht, ty⟩ := tyX_of o hr re hne
    have nf := notFirst_of o hC ht
    have run : wpAny (model X.prog X.w) X.A (call (.ref fa) [.ref a, u]) (PySem.W.CmpBack (EP X pins σ Q)) X.xe s :=
      wpAny_mono (R X rfl rfl rfl rfl rfl X.A ⟨hroom.mono (by omega), rfl⟩ pins s σ H [.ref a, u] [] [.ref a, y] [] Q _ γ [.obj c fs, e] m I (passAt tk σ) rfl rfl (.cons rfl (.cons ry .nil)) .nil hr (.cons rd (.cons re .nil)) h2) (fun r s' z => cmpBack z) fun _ _ z => z
    rcases hop with rfl | rfl
    · exact PySem.W.cmp_K (op := .Lt) hroom.units0 fr I.ok.mod.kin J (looks_ty I ry ty) nf M.at_ M.fn run
    · exact PySem.W.cmp_K (op := .LtE) hroom.units0 fr I.ok.mod.kin J (looks_ty I ry ty) nf M.at_ M.fn run
  have rel : ∀ {p : Int → Int → Bool}, (op = .lt ∨ op = .le ∨ op = .gt ∨ op = .ge) → (∀ (i j : Int) (t t' : Tok) (s : Shared) (Q E : Value → Shared → Prop), Q (.bool (p i j)) s → wpAny (model X.prog X.w) X.A (compareOp (copOf op) (.int i t) (.int j t')) Q E s) →
      Post RV X.mg (fun c dd H' => W c dd σ H') γ H (match (generalizing := false) d, e with | .int i, .int j => .ok (.bl (p i j)) m | .obj _ _, .ref _ => .stuck | .obj c fs, y => (match (ltTab g op).lookup c with | some f => f [.obj c fs, y] m | none => .stuck) | _, _ => (.stuck : Res D)) Q →
      wpAny (model X.prog X.w) X.A (compareOp (copOf op) v u) (EP X pins σ Q) X.xe s := fun {p} hop rule h3 => by
    clear h
    split at h3
    · rename_i i j
      exact ord rule i j rfl rfl h3
    · exact h3.elim
    · rename_i c fs hne
      split at h3
      · rename_i f hf
        have hop2 : op = .lt ∨ op = .le := by
          rcases hop with rfl | rfl | rfl | rfl
          · exact .inl rfl
          · exact .inr rfl
          · simp [ltTab] at hf
          · simp [ltTab] at hf
        exact own c fs f rfl (fun i z => hne i z) hop2 hf h3
      · exact h3.elim
    · exact h3.elim
  cases op with
  | eq => exact op_eqne o hroom (ne := false) I rx ry hr rd re h
  | ne => exact op_eqne o hroom (ne := true) I rx ry hr rd re h
  | in_ =>
    simp only [cmpD] at h
    split at h
    · rename_i b hb
      exact inD_bool hu (ng := false) I rx ry hr rd re hb (h γ _ H .refl hr rfl)
    · exact h.elim
  | nin =>
    simp only [cmpD] at h
    split at h
    · rename_i b hb
      exact inD_bool hu (ng := true) I rx ry hr rd re hb (h γ _ H .refl hr rfl)
    · exact h.elim
  | lt => exact rel (p := fun i j => decide (i < j)) (.inl rfl) (fun _ _ _ _ _ _ _ q => lt_int q) h
  | le => exact rel (p := fun i j => decide (i ≤ j)) (.inr (.inl rfl)) (fun _ _ _ _ _ _ _ q => le_int q) h
  | gt => exact rel (p := fun i j => decide (j < i)) (.inr (.inr (.inl rfl))) (fun _ _ _ _ _ _ _ q => gt_int q) h
  | ge => exact rel (p := fun i j => decide (j ≤ i)) (.inr (.inr (.inr rfl))) (fun _ _ _ _ _ _ _ q => ge_int q) h
end
end DI
end

section
set_option linter.all false
set_option maxRecDepth 100000
set_option maxHeartbeats 1000000
/-! DI.S7: tests; the nodes of expressions. -/
namespace DI
open PySem L2
open PyProof.Rows hiding St
def toB (d : D) (m : MS) : Res Bool := match d with
  | .bl b => .ok b m
  | _ => .stuck
def TB (g : G) (mg : Str → Option Value) (W : WX) (xi : XI) (ir : E) : TT := fun σ H Q =>
  ∃ γ s m, HR mg γ m H ∧ SlR mg xi γ H σ s ∧ Post (fun _ (b c : Bool) => b = c) mg (fun c d H' => W c d σ H') γ H ((evE g ir s m).bind toB) Q
section
variable {g : G} {mg : Str → Option Value} {W : WX} {xi : XI} {γ : Gh} {σ : L2.St} {H : Hp} {m : MS} {s : Sl} {α β : Type} {R : Gh → β → α → Prop}
theorem TB.go {a : E} {F : D → MS → Res α} {Q : β → Hp → Prop} (hr : HR mg γ m H) (sl : SlR mg xi γ H σ s) (hF : ∀ d m, (∀ b, d ≠ .bl b) → F d m = .stuck) (h : Post R mg (fun c d H' => W c d σ H') γ H ((evE g a s m).bind F) Q)
    {P : Bool → Hp → Prop} (k : ∀ γ1 m1 b H1, Grow γ H γ1 H1 → HR mg γ1 m1 H1 → SlR mg xi γ1 H1 σ s → Post R mg (fun c d H' => W c d σ H') γ1 H1 (F (.bl b) m1) Q → P b H1) : TB g mg W xi a σ H P := by
  refine ⟨γ, s, m, hr, sl, ?_⟩
  cases e : evE g a s m with
  | ok d m1 =>
    rw [e] at h
    simp only [Res.bind] at h ⊢
    cases d with
    | bl b =>
      refine fun γ' v H' gg hr' hv => ?_
      have hv' : v = b := hv
      rw [hv']
      exact k γ' m1 b H' gg hr' (sl.grow gg) (Post.grow gg h)
    | _ =>
      rw [hF _ _ (fun b z => by cases z)] at h
      exact h.elim
  | exc x m1 => rw [e] at h; exact h
  | stuck => rw [e] at h; exact h.elim
end
section
variable {X : Cx} {g : G} {W : WX} {xi : XI} {lv : Nat} {a b c : Expr} {ia ib ic : E} {p : Pos}
theorem bindB (s : Sl) (m : MS) (F : D → MS → Res D) : ((evE g ia s m).bind F).bind toB = (evE g ia s m).bind fun x m => (F x m).bind toB := by
  cases evE g ia s m <;> rfl
theorem t_val {e : Expr} {ir : E} (h : PE X e (TX g X.mg W xi ir)) (he : ∀ whole, isTrue e X.env whole = (do let v ← whole; standAt e.pos; holding [v] (truthy v))) : PT X e (TB g X.mg W xi ir) :=
  PT.by (pt_val h he) fun σ H Q ⟨γ, s, m, hr, sl, h⟩ => by
    refine TX.go hr sl h fun γ1 m1 d v H1 g1 hr1 sl1 rv h1 => ?_
    cases d with
    | bl b => exact ⟨b, rv, h1 γ1 b H1 .refl hr1 rfl⟩
    | _ => exact h1.elim
theorem n_not (h : PE X a (TX g X.mg W xi ia)) : PE X (.UnaryOp .Not a p) (TX g X.mg W xi (.not ia)) := PE.by (pe_not h) fun σ H Q ⟨γ, s, m, hr, sl, h⟩ => by
  simp only [evE] at h
  refine TX.go hr sl h fun γ1 m1 d v H1 g1 hr1 sl1 rv h1 => ?_
  cases d with
  | bl b => exact ⟨b, rv, h1 γ1 _ H1 .refl hr1 rfl⟩
  | _ => exact h1.elim
theorem t_not (h : PT X a (TB g X.mg W xi ia)) : PT X (.UnaryOp .Not a p) (TB g X.mg W xi (.not ia)) := PT.by (pt_not h) fun σ H Q ⟨γ, s, m, hr, sl, h⟩ => by
  simp only [evE] at h
  rw [bindB] at h
  refine TB.go hr sl (fun d m hd => ?_) h fun γ1 m1 b H1 g1 hr1 sl1 h1 => h1 γ1 _ H1 .refl hr1 rfl
  cases d <;> first | rfl | exact absurd rfl (hd _)
theorem n_and {b : Expr} {rest : List Expr} (ha : PE X a (TX g X.mg W xi ia)) (hb : PE X (.BoolOp .And (b :: rest) p) (TX g X.mg W xi ib)) : PE X (.BoolOp .And (a :: b :: rest) p) (TX g X.mg W xi (.and ia ib)) :=
  PE.by (pe_and ha hb) fun σ H Q ⟨γ, s, m, hr, sl, h⟩ => by
    simp only [evE] at h
    refine TX.go hr sl h fun γ1 m1 d v H1 g1 hr1 sl1 rv h1 => ?_
    cases d with
    | bl c =>
      refine ⟨c, rv, ?_⟩
      cases c with
      | true =>
        simp only [if_true] at h1 ⊢
        refine TX.go hr1 sl1 h1 fun γ2 m2 e w H2 g2 hr2 sl2 rw' h2 => ?_
        cases e with
        | bl c => exact h2 γ2 _ H2 .refl hr2 rw'
        | _ => exact h2.elim
      | false => exact h1 γ1 _ H1 .refl hr1 rfl
    | _ => exact h1.elim
theorem n_or {b : Expr} {rest : List Expr} (ha : PE X a (TX g X.mg W xi ia)) (hb : PE X (.BoolOp .Or (b :: rest) p) (TX g X.mg W xi ib)) : PE X (.BoolOp .Or (a :: b :: rest) p) (TX g X.mg W xi (.or ia ib)) :=
  PE.by (pe_or ha hb) fun σ H Q ⟨γ, s, m, hr, sl, h⟩ => by
    simp only [evE] at h
    refine TX.go hr sl h fun γ1 m1 d v H1 g1 hr1 sl1 rv h1 => ?_
    cases d with
    | bl c =>
      refine ⟨c, rv, ?_⟩
      cases c with
      | false =>
        refine TX.go hr1 sl1 h1 fun γ2 m2 e w H2 g2 hr2 sl2 rw' h2 => ?_
        cases e with
        | bl c => exact h2 γ2 _ H2 .refl hr2 rw'
        | _ => exact h2.elim
      | true => exact h1 γ1 _ H1 .refl hr1 rfl
    | _ => exact h1.elim
theorem PW.by {X : Cx} {e : Expr} {t t' : TT} (h : PW X e t') (k : ∀ σ H Q, t σ H Q → t' σ H Q) : PW X e t := ⟨fun wh pins s σ H Q I q => h.run wh pins s σ H Q I (k σ H Q q)⟩
theorem w_and {b : Expr} {rest : List Expr} (ha : PT X a (TB g X.mg W xi ia)) (hb : PW X (.BoolOp .And (b :: rest) p) (TB g X.mg W xi ib)) : PW X (.BoolOp .And (a :: b :: rest) p) (TB g X.mg W xi (.and ia ib)) :=
  PW.by (pw_and ha hb) fun σ H Q ⟨γ, s, m, hr, sl, h⟩ => by
    simp only [evE] at h
    rw [bindB] at h
    refine TB.go hr sl (fun d m hd => ?_) h fun γ1 m1 b H1 g1 hr1 sl1 h1 => ?_
    · cases d <;> first | rfl | exact absurd rfl (hd _)
    · cases b with
      | true =>
        simp only [if_true] at h1 ⊢
        refine ⟨γ1, s, m1, hr1, sl1, ?_⟩
        cases e : evE g ib s m1 with
        | ok d m2 =>
          rw [e] at h1
          cases d with
          | bl c => exact h1
          | _ => exact h1.elim
        | exc _ _ => rw [e] at h1; exact h1
        | stuck => rw [e] at h1; exact h1
      | false => exact h1 γ1 _ H1 .refl hr1 rfl
theorem w_or {b : Expr} {rest : List Expr} (ha : PT X a (TB g X.mg W xi ia)) (hb : PW X (.BoolOp .Or (b :: rest) p) (TB g X.mg W xi ib)) : PW X (.BoolOp .Or (a :: b :: rest) p) (TB g X.mg W xi (.or ia ib)) :=
  PW.by (pw_or ha hb) fun σ H Q ⟨γ, s, m, hr, sl, h⟩ => by
    simp only [evE] at h
    rw [bindB] at h
    refine TB.go hr sl (fun d m hd => ?_) h fun γ1 m1 b H1 g1 hr1 sl1 h1 => ?_
    · cases d <;> first | rfl | exact absurd rfl (hd _)
    · cases b with
      | false =>
        refine ⟨γ1, s, m1, hr1, sl1, ?_⟩
        cases e : evE g ib s m1 with
        | ok d m2 =>
          rw [e] at h1
          cases d with
          | bl c => exact h1
          | _ => exact h1.elim
        | exc _ _ => rw [e] at h1; exact h1
        | stuck => rw [e] at h1; exact h1
      | true => exact h1 γ1 _ H1 .refl hr1 rfl
theorem n_cmp (o : Ok0 g lv X.prog X.w X.K X.mg X.base) (hroom : Room (lv + 8) X.A) (tk : Takes X W) {op : Cop} (ha : PE X a (TX g X.mg W xi ia)) (hb : PE X b (TX g X.mg W xi ib)) (hm : behindInMarks (copOf op) b = false) :
    PE X (.Compare a [copOf op] [b] p) (TX g X.mg W xi (.cmp op ia ib)) := PE.by (pe_cmpS (op_cmp o hroom tk op) ha hb hm) fun σ H Q ⟨γ, s, m, hr, sl, h⟩ => by
  simp only [evE] at h
  refine TX.go hr sl h fun γ1 m1 d v H1 g1 hr1 sl1 rv h1 => ?_
  refine TX.go hr1 sl1 h1 fun γ2 m2 e w H2 g2 hr2 sl2 rw' h2 => ?_
  exact ⟨γ2, d, e, m2, hr2, rv.mono g2, rw', h2⟩
theorem t_cmp (o : Ok0 g lv X.prog X.w X.K X.mg X.base) (hroom : Room (lv + 8) X.A) (tk : Takes X W) {op : Cop} (ha : PE X a (TX g X.mg W xi ia)) (hb : PE X b (TX g X.mg W xi ib)) (hm : behindInMarks (copOf op) b = false) :
    PT X (.Compare a [copOf op] [b] p) (TB g X.mg W xi (.cmp op ia ib)) := PT.by (pt_cmpS (op_cmp o hroom tk op) ha hb hm) fun σ H Q ⟨γ, s, m, hr, sl, h⟩ => by
  simp only [evE] at h
  rw [bindB] at h
  refine TX.go hr sl h fun γ1 m1 d v H1 g1 hr1 sl1 rv h1 => ?_
  rw [bindB] at h1
  refine TX.go hr1 sl1 h1 fun γ2 m2 e w H2 g2 hr2 sl2 rw' h2 => ?_
  refine ⟨γ2, d, e, m2, hr2, rv.mono g2, rw', ?_⟩
  cases hc : cmpD g op d e m2 with
  | ok x m3 =>
    rw [hc] at h2
    cases x with
    | bl k => exact fun γ' v H' gg hr' rv' => ⟨k, rv', h2 γ' k H' gg hr' rfl⟩
    | _ => exact h2.elim
  | exc _ _ => rw [hc] at h2; exact h2
  | stuck => rw [hc] at h2; exact h2
theorem n_isN (h : PE X a (TX g X.mg W xi ia)) {j : Nat} {p' : Pos} : PE X (.Compare a [.Is] [.Constant .none j p'] p) (TX g X.mg W xi (.isN false ia)) := PE.by (pe_cmp (pc_isN h) rfl) fun σ H Q ⟨γ, s, m, hr, sl, h⟩ => by
  simp only [evE] at h
  refine TX.go hr sl h fun γ1 m1 d v H1 g1 hr1 sl1 rv h1 => h1 γ1 _ H1 .refl hr1 ?_
  cases d with
  | non => cases rv; rfl
  | ref i => obtain ⟨a, _, rfl⟩ := rv; rfl
  | bl b => cases rv; rfl
  | int i => cases rv; rfl
  | str i => cases rv; rfl
  | tup xs => obtain ⟨a, rfl, _⟩ := rv; rfl
  | lst xs => obtain ⟨a, rfl, _⟩ := rv; rfl
  | dct xs => obtain ⟨a, rfl, _⟩ := rv; rfl
  | obj c xs => obtain ⟨a, rfl, _⟩ := rv; rfl
theorem n_notN (h : PE X a (TX g X.mg W xi ia)) {j : Nat} {p' : Pos} : PE X (.Compare a [.IsNot] [.Constant .none j p'] p) (TX g X.mg W xi (.isN true ia)) := PE.by (pe_cmp (pc_notN h) rfl) fun σ H Q ⟨γ, s, m, hr, sl, h⟩ => by
  simp only [evE] at h
  refine TX.go hr sl h fun γ1 m1 d v H1 g1 hr1 sl1 rv h1 => h1 γ1 _ H1 .refl hr1 ?_
  cases d with
  | non => cases rv; rfl
  | ref i => obtain ⟨a, _, rfl⟩ := rv; rfl
  | bl b => cases rv; rfl
  | int i => cases rv; rfl
  | str i => cases rv; rfl
  | tup xs => obtain ⟨a, rfl, _⟩ := rv; rfl
  | lst xs => obtain ⟨a, rfl, _⟩ := rv; rfl
  | dct xs => obtain ⟨a, rfl, _⟩ := rv; rfl
  | obj c xs => obtain ⟨a, rfl, _⟩ := rv; rfl
theorem n_ite (hc : PT X c (TB g X.mg W xi ic)) (ha : PE X a (TX g X.mg W xi ia)) (hb : PE X b (TX g X.mg W xi ib)) : PE X (.IfExp c a b p) (TX g X.mg W xi (.ite ic ia ib)) := PE.by (pe_ifExp hc ha hb) fun σ H Q ⟨γ, s, m, hr, sl, h⟩ => by
  simp only [evE] at h
  refine TB.go hr sl (fun d m hd => ?_) h fun γ1 m1 b H1 g1 hr1 sl1 h1 => ?_
  · cases d <;> first | rfl | exact absurd rfl (hd _)
  · cases b with
    | true => simp only [if_true]; exact ⟨γ1, s, m1, hr1, sl1, h1⟩
    | false => simp only [Bool.false_eq_true, if_false]; exact ⟨γ1, s, m1, hr1, sl1, h1⟩
theorem n_neg (o : Ok0 g lv X.prog X.w X.K X.mg X.base) (hroom : Room lv X.A) (tk : Takes X W) (h : PE X a (TX g X.mg W xi ia)) : PE X (.UnaryOp .USub a p) (TX g X.mg W xi (.neg ia)) := by
  refine ⟨fun pins s0 σ H Q I ⟨γ, s, m, hr, sl, h0⟩ => ?_⟩
  simp only [evE] at h0
  refine UnaryOp_ (thn (h.run pins s0 σ H _ I (TX.go hr sl h0 (P := fun v H1 => ∃ γ1 m1 d, HR X.mg γ1 m1 H1 ∧ RV γ1 v d ∧ Post RV X.mg (fun c d H' => W c d σ H') γ1 H1 (negD g d m1) Q) fun γ1 m1 d v H1 g1 hr1 sl1 rv h1 => ⟨γ1, m1, d, hr1, rv, h1⟩)) fun v s1 ⟨x, H1, I1, r1, γ1, m1, d, hr1, rv, q1⟩ => ?_)
  unfold negD at q1
  split at q1
  · rename_i i
    exact un_neg pins s1 σ H1 x v Q I1 r1 ⟨i, rv, q1 γ1 _ H1 .refl hr1 rfl⟩
  · rename_i c fs
    split at q1
    · rename_i f hf
      obtain ⟨C, fa, hC, M, R⟩ := o.neg c f hf
      obtain ⟨a, C', dx, fw, od, rfl, hC', ha, rk, J⟩ := ins_at I1 hr1 rv
      rw [hC] at hC'
      cases hC'
      cases r1
      exact PySem.W.neg_K I1.kIn J M.at_ M.fn (R X rfl rfl rfl rfl rfl X.A ⟨hroom, rfl⟩ pins s1 σ H1 [.ref a] [] [.ref a] [] Q _ γ1 [.obj c fs] m1 I1 (passAt tk σ) rfl rfl (.cons rfl .nil) .nil hr1 (.cons rv .nil) q1)
    · exact q1.elim
  · exact q1.elim
end
end DI
end

section
set_option linter.all false
set_option maxRecDepth 100000
set_option maxHeartbeats 1000000
/-! DI.S8: displays, subscripts, fields, built-ins. -/
namespace DI
open PySem L2
open PyProof.Rows hiding St
section
variable {X : Cx} {g : G} {W : WX} {xi : XI} {lv : Nat} {a b c : Expr} {ia ib ic : E} {p : Pos}
theorem n_as_star {es : List Expr} {as : List E} {p' : Pos} (he : PE X a (TX g X.mg W xi ia)) (hes : PA X es (TXs g X.mg W xi as)) : PA X (.Starred a p' :: es) (TXs g X.mg W xi (.star ia :: as)) :=
  PA.by (StX.pa_star he hes) fun σ H Q ⟨γ, s, m, hr, sl, h⟩ => by
    simp only [evEs, evE] at h
    refine TX.go hr sl h fun γ1 m1 d v H1 g1 hr1 sl1 rv h1 => ?_
    have rest : ∀ vs ys, RVs γ1 vs ys → Post RVs X.mg (fun c d H' => W c d σ H') γ1 H1 ((evEs g as s m1).bind fun r m => .ok (ys ++ r) m) Q → TXs g X.mg W xi as σ H1 fun zs H2 => Q (vs ++ zs) H2 := fun vs ys r h2 =>
      TXs.go hr1 sl1 h2 fun γ2 m2 ds ws H2 g2 hr2 sl2 rvs h3 => h3 γ2 _ H2 .refl hr2 (RVs.append (r.mono g2) rvs)
    simp only [splD] at h1
    split at h1
    · rename_i ys hk
      obtain ⟨q, vs, rfl, hq, rs⟩ := inner_lst hr1 rv hk
      exact ⟨q, vs, rfl, .inr (.inl hq), rest _ _ rs h1⟩
    · rename_i ys hk
      obtain ⟨q, vs, rfl, hq, rs⟩ := inner_tup hr1 rv hk
      exact ⟨q, vs, rfl, .inl (.inl hq), rest _ _ rs h1⟩
    · exact h1.elim
theorem n_glo {x : Str} {v : V} {u : Value} {d : D} (hg : Gl X x) (hm : X.mg x = some u) (r : RelV v u) (hv : toV d = some v) (hd : (x == ("__debug__" : Str)) = false) : PE X (.Name x p) (TX g X.mg W xi (.glo x d)) :=
  PE.by (pe_glob hg hm r hd) fun σ H Q ⟨γ, s, m, hr, sl, h⟩ => h γ _ H .refl hr (by
    cases d with
    | non => cases hv; rfl
    | bl b => cases hv; rfl
    | int i => cases hv; rfl
    | str i => cases hv; rfl
    | _ => cases hv)
theorem n_tup {es : List Expr} {as : List E} (h : PA X es (TXs g X.mg W xi as)) {x1} : PE X (.Tuple es x1 p) (TX g X.mg W xi (.tup as)) := PE.by (pe_tup h) fun σ H Q ⟨γ, s, m, hr, sl, h⟩ => by
  simp only [evE] at h
  refine TXs.go hr sl h fun γ1 m1 ds vs H1 g1 hr1 sl1 rs h1 => ?_
  split at h1
  · rename_i hl
    refine ⟨maxLen_le (by rw [rs.length]; exact hl), fun q hq => ?_⟩
    have gg : Grow γ1 H1 (γ1.add q (.tup ds) (.tup vs)) (upd H1 q (.tup vs)) := Grow.add hr1 hq
    exact h1 _ _ _ gg (hr1.add hq ⟨vs, .inl upd_same, rs.mono gg⟩) ⟨q, rfl, Gh.add_same⟩
  · exact h1.elim
theorem n_lst {es : List Expr} {as : List E} (h : PA X es (TXs g X.mg W xi as)) : PE X (.List es p) (TX g X.mg W xi (.lst as)) := PE.by (pe_lst h) fun σ H Q ⟨γ, s, m, hr, sl, h⟩ => by
  simp only [evE] at h
  refine TXs.go hr sl h fun γ1 m1 ds vs H1 g1 hr1 sl1 rs h1 => ?_
  split at h1
  · rename_i hl
    refine ⟨maxLen_le (by rw [rs.length]; exact hl), fun q hq => ?_⟩
    have gg : Grow γ1 H1 (γ1.add q (.lst ds) (.lst vs)) (upd H1 q (.lst vs)) := Grow.add hr1 hq
    exact h1 _ _ _ gg (hr1.add hq ⟨vs, .inl upd_same, rs.mono gg⟩) ⟨q, rfl, Gh.add_same⟩
  · exact h1.elim
theorem n_lstM {es : List Expr} {as : List E} (h : PA X es (TXs g X.mg W xi as)) : PE X (.List es p) (TX g X.mg W xi (.lstM as)) := PE.by (pe_lst h) fun σ H Q ⟨γ, s, m, hr, sl, h⟩ => by
  simp only [evE] at h
  refine TXs.go hr sl h fun γ1 m1 ds vs H1 g1 hr1 sl1 rs h1 => ?_
  split at h1
  · rename_i hl
    refine ⟨maxLen_le (by rw [rs.length]; exact hl), fun q hq => ?_⟩
    have gg : Grow γ1 H1 (γ1.cell q) (upd H1 q (.lst vs)) := Grow.cell hq
    refine h1 _ _ _ gg (hr1.cell_new hq ⟨vs, upd_same, rs.mono gg⟩) ⟨q, ?_, rfl⟩
    show (γ1.as ++ [q])[m1.length]? = some q
    rw [← hr1.len]
    simp
  · exact h1.elim
/-- x[y] by the meaning -/
theorem ix_d (hu : X.A.units + 1 < cLine) : IxR X (fun x y H Q => ∃ γ d e m r, HR X.mg γ m H ∧ RV γ x d ∧ RV γ y e ∧ idxD d e m = some r ∧ ∀ v, RV γ v r → Q v H) := by
  intro value slice pins s σ H x y v u Q I rx ry h hs
  obtain ⟨γ, d, e, m, r, hr, rd, re, h, q⟩ := h
  unfold idxD at h
  split at h
  · rename_i xs i hk
    have re' : y = .int i := re
    subst re'
    obtain ⟨a, vs, rfl, ra, rv⟩ := inner_lst hr rd hk
    obtain ⟨w, e1, r1⟩ := atI_rv rv h
    exact ix_list value slice pins s σ H _ _ v u Q I rx ry ⟨a, vs, i, w, rfl, rfl, .inl ra, e1, q w r1⟩ hs
  · rename_i xs i hk
    have re' : y = .int i := re
    subst re'
    obtain ⟨a, vs, rfl, ra, rv⟩ := inner_tup hr rd hk
    obtain ⟨w, e1, r1⟩ := atI_rv rv h
    exact ix_tup value slice pins s σ H _ _ v u Q I rx ry ⟨a, vs, i, w, rfl, rfl, .inl ra, e1, q w r1⟩ hs
  · rename_i z i hk
    have re' : y = .int i := re
    subst re'
    have hx := inner_str rd hk
    subst hx
    split at h
    · rename_i hz
      cases hc : atI z.cps.toList i with
      | none => rw [hc] at h; cases h
      | some c =>
        rw [hc] at h
        cases h
        exact ix_str value slice pins s σ H _ _ v u Q I rx ry ⟨z, i, c, rfl, rfl, maxLen_le hz, hc, q _ rfl⟩ hs
    · cases h
  · rename_i kvs hk
    obtain ⟨a, kw, rfl, ra, rk⟩ := inner_dct hr rd hk
    cases rx
    rename_i e _ _
    cases hd : keyD e with
    | none => rw [hd] at h; cases h
    | some k =>
      rw [hd] at h
      have h' : look kvs k = some r := h
      have hx := keyD_rv re hd
      subst hx
      obtain ⟨w, e1, r1⟩ := (look_rv rk k).1 r h'
      have dg : DGet H a (kV k) (some w) := .inl ⟨kw, k, ra, rfl, e1.symm⟩
      exact tail_any (dict_typeIs I dg) PySem.F.slot_dict_getitem.lookup (d_getItem hu I dg ry fun w' s' I' rw' => ⟨w, H, I', rw', q w r1⟩) hs
  · cases h
theorem n_idx (hu : X.A.units + 1 < cLine) (ha : PE X a (TX g X.mg W xi ia)) (hb : PE X b (TX g X.mg W xi ib)) (hs : PlainIx b) : PE X (.Subscript a b p) (TX g X.mg W xi (.idx ia ib)) := PE.by (pe_ix (ix_d hu) ha hb hs) fun σ H Q ⟨γ, s, m, hr, sl, h⟩ => by
  simp only [evE] at h
  refine TX.go hr sl h fun γ1 m1 d v H1 g1 hr1 sl1 rv h1 => ?_
  refine TX.go hr1 sl1 h1 fun γ2 m2 e w H2 g2 hr2 sl2 rw' h2 => ?_
  cases hi : idxD d e m2 with
  | none => rw [hi] at h2; exact h2.elim
  | some r =>
    rw [hi] at h2
    exact ⟨γ2, d, e, m2, r, hr2, rv.mono g2, rw', hi, fun v' rv' => h2 γ2 v' H2 .refl hr2 rv'⟩
theorem RVs.cut {γ : Gh} {vs : List V} {ds : List D} (r : RVs γ vs ds) (lo hi : Option Int) : RVs γ (cutV vs lo hi) (cutD ds lo hi) := by
  have dr : ∀ n {vs : List V} {ds : List D}, RVs γ vs ds → RVs γ (vs.drop n) (ds.drop n) := fun n => by
    induction n with
    | zero => exact fun r => r
    | succ n ih =>
      intro vs ds r
      cases r with
      | nil => exact .nil
      | cons h t => exact ih t
  have tk : ∀ n {vs : List V} {ds : List D}, RVs γ vs ds → RVs γ (vs.take n) (ds.take n) := fun n => by
    induction n with
    | zero => exact fun r => .nil
    | succ n ih =>
      intro vs ds r
      cases r with
      | nil => exact .nil
      | cons h t => exact .cons h (ih t)
  unfold cutV cutD
  rw [r.length]
  exact tk _ (dr _ r)
theorem po_none' : PO X none (fun σ H Q => ∃ γ s m, HR X.mg γ m H ∧ SlR X.mg xi γ H σ s ∧ Post (fun _ (b c : Option Int) => b = c) X.mg (fun c d H' => W c d σ H') γ H (evO g none s m) Q) := ⟨fun pins s σ H Q I ⟨γ, s', m, hr, sl, h⟩ =>
  po_none.run pins s σ H Q I (h γ none H .refl hr rfl)⟩
theorem po_some' (ha : PE X a (TX g X.mg W xi ia)) : PO X (some a) (fun σ H Q => ∃ γ s m, HR X.mg γ m H ∧ SlR X.mg xi γ H σ s ∧ Post (fun _ (b c : Option Int) => b = c) X.mg (fun c d H' => W c d σ H') γ H (evO g (some ia) s m) Q) := ⟨fun pins s σ H Q I ⟨γ, s', m, hr, sl, h⟩ => by
  refine (po_some ha).run pins s σ H Q I ?_
  simp only [evO] at h
  refine TX.go hr sl h fun γ1 m1 d v H1 g1 hr1 sl1 rv h1 => ?_
  split at h1
  · rename_i i
    exact ⟨i, rv, h1 γ1 _ H1 .refl hr1 rfl⟩
  · exact h1.elim⟩
theorem sl_d : L2.SlR X (fun x lo hi H Q => ∃ γ d m r, HR X.mg γ m H ∧ RV γ x d ∧ slcD d lo hi m = some r ∧ ∀ γ' v H', Grow γ H γ' H' → HR X.mg γ' m H' → RV γ' v r → Q v H') := by
  intro pins s σ H x v vl vu lo hi sl Q I rx hs pl pu h
  obtain ⟨γ, d, m, r, hr, rd, h, q⟩ := h
  unfold slcD at h
  split at h
  · rename_i xs hk
    cases h
    obtain ⟨a, vs, rfl, ra, rv⟩ := inner_lst hr rd hk
    refine sl_list pins s σ H _ v vl vu lo hi sl Q I rx hs pl pu ⟨a, vs, rfl, .inl ra, fun n hn => ?_⟩
    have gg : Grow γ H (γ.add n (.lst (cutD xs lo hi)) (.lst (cutV vs lo hi))) (upd H n (.lst (cutV vs lo hi))) := Grow.add hr hn
    exact q _ _ _ gg (hr.add hn ⟨_, .inl upd_same, (rv.cut lo hi).mono gg⟩) ⟨n, rfl, Gh.add_same⟩
  · rename_i z hk
    split at h
    · rename_i hz
      cases h
      have hx := inner_str rd hk
      subst hx
      exact sl_str pins s σ H _ v vl vu lo hi sl Q I rx hs pl pu ⟨z, rfl, maxLen_le hz, q γ _ H .refl hr rfl⟩
    · cases h
  · cases h
theorem n_slc {lo hi : Option Expr} {il ih : Option E} {p2 : Pos} (ha : PE X a (TX g X.mg W xi ia))
    (hl : PO X lo (fun σ H Q => ∃ γ s m, HR X.mg γ m H ∧ SlR X.mg xi γ H σ s ∧ Post (fun _ (b c : Option Int) => b = c) X.mg (fun c d H' => W c d σ H') γ H (evO g il s m) Q))
    (hh : PO X hi (fun σ H Q => ∃ γ s m, HR X.mg γ m H ∧ SlR X.mg xi γ H σ s ∧ Post (fun _ (b c : Option Int) => b = c) X.mg (fun c d H' => W c d σ H') γ H (evO g ih s m) Q)) :
    PE X (.Subscript a (.Slice lo hi none p2) p) (TX g X.mg W xi (.slc ia il ih)) := PE.by (pe_slice sl_d ha hl hh) fun σ H Q ⟨γ, s, m, hr, sl, h⟩ => by
  simp only [evE] at h
  refine TX.go hr sl h fun γ1 m1 d v H1 g1 hr1 sl1 rv h1 => ?_
  refine ⟨γ1, s, m1, hr1, sl1, (Post.bind (R := fun _ (b c : Option Int) => b = c) h1).imp fun l H2 ⟨γ2, m2, l', g2, hr2, e2, h2⟩ => ?_⟩
  subst e2
  refine ⟨γ2, s, m2, hr2, sl1.grow g2, (Post.bind (R := fun _ (b c : Option Int) => b = c) h2).imp fun l2 H3 ⟨γ3, m3, l2', g3, hr3, e3, h3⟩ => ?_⟩
  subst e3
  cases hi : slcD d l l2 m3 with
  | none => rw [hi] at h3; exact h3.elim
  | some r =>
    rw [hi] at h3
    exact ⟨γ3, d, m3, r, hr3, (rv.mono g2).mono g3, hi, fun γ' v' H' g' hr' rv' => h3 γ' v' H' g' hr' rv'⟩
theorem rk_lookup {γ : Gh} {fw : List (Str × V)} {fs : List (Str × D)} {f : Str} {d : D} (r : RK γ fw fs) (h : fs.lookup f = some d) : ∃ v, fw.lookup f = some v ∧ RV γ v d := by
  induction r with
  | nil => cases h
  | @cons p q ps qs hh t ih =>
    obtain ⟨pk, pv⟩ := p
    obtain ⟨qk, qv⟩ := q
    obtain ⟨h1, h2⟩ := hh
    simp only at h1 h2
    subst h1
    rw [List.lookup_cons] at h ⊢
    split at h
    · cases h
      exact ⟨pv, rfl, h2⟩
    · exact ih h
theorem n_attr (o : Ok0 g lv X.prog X.w X.K X.mg X.base) {f : Str} (ha : PE X a (TX g X.mg W xi ia)) (hb : attributeBase a f X.env (eval a X.env) = eval a X.env) : PE X (.Attribute a f p) (TX g X.mg W xi (.attr ia f)) :=
  PE.by (pe_fld ha hb) fun σ H Q ⟨γ, s, m, hr, sl, h⟩ => by
    simp only [evE] at h
    refine TX.go hr sl h fun γ1 m1 d v H1 g1 hr1 sl1 rv h1 => ?_
    cases hi : attrD g d f m1 with
    | none => rw [hi] at h1; exact h1.elim
    | some r =>
      rw [hi] at h1
      unfold attrD at hi
      split at hi
      · rename_i c fs
        split at hi
        · rename_i hf
          obtain ⟨a, rfl, e⟩ := rv
          obtain ⟨C, dx, fw, q, hC, rk⟩ := hr1.fr a _ e
          obtain ⟨w, e1, r1⟩ := rk_lookup rk hi
          exact ⟨a, C, dx, fw, w, rfl, q, (o.cls c C hC).cls, o.fld c f C hf hC, e1, h1 γ1 w H1 .refl hr1 r1⟩
        · cases hi
      · split at hi
        · rename_i i c fs e
          split at hi
          · rename_i hf
            obtain ⟨a, rfl, _, C, dx, fw, q, hC, rk⟩ := hr1.cell e rv
            obtain ⟨w, e1, r1⟩ := rk_lookup rk hi
            exact ⟨a, C, dx, fw, w, rfl, q, (o.cls c C hC).cls, o.fld c f C hf hC, e1, h1 γ1 w H1 .refl hr1 r1⟩
          · cases hi
        · cases hi
      · cases hi
end
end DI
end

section
set_option linter.all false
set_option maxRecDepth 100000
set_option maxHeartbeats 1000000
/-! DI.S9: built-in functions, isinstance, dicts. -/
namespace DI
open PySem L2
open PyProof.Rows hiding St
def biVal : Bi → Value
  | .len => .builtin "len" | .abs => .builtin "abs" | .int => .type "int" | .max => .builtin "max" | .min => .builtin "min" | .all => .builtin "all" | .any => .builtin "any"
  | .list => .type "list" | .tuple => .type "tuple" | .repr => .builtin "repr" | .str => .type "str" | .sorted => .builtin "sorted" | .dict => .type "dict"
def biName : Bi → Str
  | .len => "len" | .abs => "abs" | .int => "int" | .max => "max" | .min => "min" | .all => "all" | .any => "any"
  | .list => "list" | .tuple => "tuple" | .repr => "repr" | .str => "str" | .sorted => "sorted" | .dict => "dict"
theorem rvs1 {γ : Gh} {xs : List V} {d : D} (r : RVs γ xs [d]) : ∃ x, xs = [x] ∧ RV γ x d := by
  cases r with
  | cons h t => cases t; exact ⟨_, rfl, h⟩
theorem rvs2 {γ : Gh} {xs : List V} {d e : D} (r : RVs γ xs [d, e]) : ∃ x y, xs = [x, y] ∧ RV γ x d ∧ RV γ y e := by
  cases r with
  | cons h t =>
    cases t with
    | cons h2 t2 => cases t2; exact ⟨_, _, rfl, h, h2⟩
theorem bools_of {γ : Gh} : ∀ {vs : List V} {ys : List D} {bs : List Bool}, RVs γ vs ys → boolsD ys = some bs → vs = bs.map V.bl
  | _, _, bs, .nil, h => by cases h; rfl
  | _, _, bs, .cons (b := d) r t, h => by
    cases d with
    | bl b =>
      simp only [boolsD] at h
      cases e : boolsD _ with
      | none => rw [e] at h; cases h
      | some cs =>
        rw [e] at h
        cases h
        rw [bools_of t e]
        cases r
        rfl
    | _ => cases h
theorem truths_of {ys : List D} {F : List Bool → Bool} {r : D} (h : truths ys F = some r) : ∃ bs, boolsD ys = some bs ∧ r = .bl (F bs) := by
  unfold truths at h
  cases e : boolsD ys with
  | none => rw [e] at h; cases h
  | some bs => rw [e] at h; cases h; exact ⟨bs, rfl, rfl⟩
section
variable {X : Cx} {g : G} {W : WX} {xi : XI} {lv : Nat} {a b c : Expr} {ia ib ic : E} {p : Pos}
/-- what a built-in's meaning says -/
def rBi (mg : Str → Option Value) (b : Bi) : List V → Hp → VK → Prop := fun xs H Q => ∃ γ ds m r, HR mg γ m H ∧ RVs γ xs ds ∧ biD b ds m = some r ∧ ∀ γ' v H', Grow γ H γ' H' → HR mg γ' m H' → RV γ' v r → Q v H'
theorem call_bi (hc : X.calm = true) (b : Bi) : CallR X (biVal b) (rBi X.mg b) := by
  intro pins s σ H xs us Q I ru h
  obtain ⟨γ, ds, m, r, hr, rs, h, q⟩ := h
  have fin : ∀ v, RV γ v r → Q v H := fun v rv => q γ v H .refl hr rv
  unfold biD at h
  split at h
  · rename_i d
    obtain ⟨x, rfl, rx⟩ := rvs1 rs
    cases hl : lenD d m with
    | none => rw [hl] at h; cases h
    | some n =>
      rw [hl] at h
      cases h
      unfold lenD at hl
      split at hl
      · rename_i ys hk
        cases hl
        obtain ⟨a, vs, rfl, ra, rv⟩ := inner_lst hr rx hk
        exact call_len_seq pins s σ H _ us Q I ru ⟨a, vs, rfl, .inl (.inl ra), fin _ (by rw [← rv.length]; rfl)⟩
      · rename_i ys hk
        cases hl
        obtain ⟨a, vs, rfl, ra, rv⟩ := inner_tup hr rx hk
        exact call_len_seq pins s σ H _ us Q I ru ⟨a, vs, rfl, .inr (.inl ra), fin _ (by rw [← rv.length]; rfl)⟩
      · rename_i ys hk
        cases hl
        obtain ⟨a, vs, rfl, ra, rv⟩ := inner_dct hr rx hk
        obtain ⟨u, rfl, ru'⟩ := vals1 ru
        cases ru'
        exact d_len I ra fun t s' I' => ⟨.int vs.length, H, I', ⟨t, rfl⟩, fin _ (by rw [← rv.length]; rfl)⟩
      · rename_i z hk
        split at hl
        · rename_i hz
          cases hl
          have hx := inner_str rx hk
          subst hx
          exact call_len_str pins s σ H _ us Q I ru ⟨z, rfl, maxLen_le hz, fin _ rfl⟩
        · cases hl
      · cases hl
  · rename_i i
    obtain ⟨x, rfl, rx⟩ := rvs1 rs
    cases h
    cases rx
    exact call_abs pins s σ H _ us Q I ru ⟨i, rfl, fin _ rfl⟩
  · rename_i i
    obtain ⟨x, rfl, rx⟩ := rvs1 rs
    cases h
    cases rx
    exact call_int1 pins s σ H _ us Q I ru (.inl ⟨i, rfl, fin _ rfl⟩)
  · rename_i i
    obtain ⟨x, rfl, rx⟩ := rvs1 rs
    cases h
    cases rx
    exact call_int1 pins s σ H _ us Q I ru (.inr ⟨i, rfl, fin _ rfl⟩)
  · rename_i i j
    obtain ⟨x, y, rfl, rx, ry⟩ := rvs2 rs
    cases h
    cases rx
    cases ry
    exact call_max2 hc pins s σ H _ us Q I ru ⟨i, j, rfl, fin _ rfl⟩
  · rename_i i j
    obtain ⟨x, y, rfl, rx, ry⟩ := rvs2 rs
    cases h
    cases rx
    cases ry
    exact call_min2 hc pins s σ H _ us Q I ru ⟨i, j, rfl, fin _ rfl⟩
  · rename_i d
    obtain ⟨x, rfl, rx⟩ := rvs1 rs
    split at h
    · rename_i ys hk
      obtain ⟨bs, hb, rfl⟩ := truths_of h
      obtain ⟨a, vs, rfl, ra, rv⟩ := inner_lst hr rx hk
      have e := bools_of rv hb
      subst e
      exact cr_all hc pins s σ H _ us Q I ru ⟨a, bs, rfl, .inl ra, fin _ rfl⟩
    · cases h
  · rename_i d
    obtain ⟨x, rfl, rx⟩ := rvs1 rs
    split at h
    · rename_i ys hk
      obtain ⟨bs, hb, rfl⟩ := truths_of h
      obtain ⟨a, vs, rfl, ra, rv⟩ := inner_lst hr rx hk
      have e := bools_of rv hb
      subst e
      exact cr_any hc pins s σ H _ us Q I ru ⟨a, bs, rfl, .inl ra, fin _ rfl⟩
    · cases h
  · rename_i d
    obtain ⟨x, rfl, rx⟩ := rvs1 rs
    have new : ∀ a vs ys, x = .ref a → (SqL X.K H a vs ∨ SqT X.K H a vs) → RVs γ vs ys → r = .lst ys → wpAny (model X.prog X.w) X.A (call (biVal .list) us) (EP X pins σ Q) X.xe s := fun a vs ys e hq rv er => by
      subst e
      subst er
      refine call_list_of pins s σ H _ us Q I ru ⟨a, vs, rfl, hq, fun n hn => ?_⟩
      have gg : Grow γ H (γ.add n (.lst ys) (.lst vs)) (upd H n (.lst vs)) := Grow.add hr hn
      exact q _ _ _ gg (hr.add hn ⟨_, .inl upd_same, rv.mono gg⟩) ⟨n, rfl, Gh.add_same⟩
    split at h
    · rename_i ys hk
      cases h
      obtain ⟨a, vs, e, ra, rv⟩ := inner_lst hr rx hk
      exact new a vs ys e (.inl (.inl ra)) rv rfl
    · rename_i ys hk
      cases h
      obtain ⟨a, vs, e, ra, rv⟩ := inner_tup hr rx hk
      exact new a vs ys e (.inr (.inl ra)) rv rfl
    · cases h
  · rename_i d
    obtain ⟨x, rfl, rx⟩ := rvs1 rs
    split at h
    · rename_i ys hk
      cases h
      obtain ⟨a, vs, rfl, ra, rv⟩ := inner_lst hr rx hk
      refine call_tuple_of pins s σ H _ us Q I ru ⟨a, vs, rfl, .inl ⟨.inl ra, fun n hn => ?_⟩⟩
      have gg : Grow γ H (γ.add n (.tup ys) (.tup vs)) (upd H n (.tup vs)) := Grow.add hr hn
      exact q _ _ _ gg (hr.add hn ⟨_, .inl upd_same, rv.mono gg⟩) ⟨n, rfl, Gh.add_same⟩
    · rename_i ys hk
      cases h
      have e : d = .tup ys := by
        cases d with
        | ref i =>
          simp only [inner] at hk
          split at hk <;> cases hk
        | _ => simpa [inner] using hk
      subst e
      obtain ⟨a, vs, rfl, ra, rv⟩ := inner_tup hr rx hk
      exact call_tuple_of pins s σ H _ us Q I ru ⟨a, vs, rfl, .inr ⟨.inl ra, fin _ rx⟩⟩
    · cases h
  · rename_i i
    obtain ⟨x, rfl, rx⟩ := rvs1 rs
    cases rx
    split at h
    · rename_i hl
      cases h
      exact SkE.call_repr_int pins s σ H _ us Q I ru ⟨i, rfl, hl, fin _ rfl⟩
    · cases h
  · rename_i i
    obtain ⟨x, rfl, rx⟩ := rvs1 rs
    cases rx
    split at h
    · rename_i hl
      cases h
      exact call_str_int pins s σ H _ us Q I ru ⟨i, rfl, hl, fin _ rfl⟩
    · cases h
  · rename_i i
    obtain ⟨x, rfl, rx⟩ := rvs1 rs
    cases rx
    cases h
    exact SkE.call_str_str pins s σ H _ us Q I ru ⟨i, rfl, fin _ rfl⟩
  · cases h
theorem n_bi (hc : X.calm = true) {bi : Bi} {es : List Expr} {as : List E} {p' : Pos} (hg : Gl X (biName bi)) (hm : X.mg (biName bi) = none) (ha : PA X (a :: es) (TXs g X.mg W xi as))
    (he : starEach (a :: es) X.env = (false, eval a X.env) :: starEach es X.env) (hpl : (backTo p (starEach es X.env)).any (·.1) = false) : PE X (.Call (.Name (biName bi) p') (a :: es) [] p) (TX g X.mg W xi (.bi bi as)) := by
  have h : PE X (.Call (.Name (biName bi) p') (a :: es) [] p) (tCB (rBi X.mg bi) (TXs g X.mg W xi as)) := by
    have hh := call_bi (X := X) hc bi
    cases bi with
    | len => exact pe_callB hh hg hm (by decide +kernel) ha (by decide) (by decide) he hpl
    | abs => exact pe_callB hh hg hm (by decide +kernel) ha (by decide) (by decide) he hpl
    | max => exact pe_callB hh hg hm (by decide +kernel) ha (by decide) (by decide) he hpl
    | min => exact pe_callB hh hg hm (by decide +kernel) ha (by decide) (by decide) he hpl
    | all => exact pe_callB hh hg hm (by decide +kernel) ha (by decide) (by decide) he hpl
    | any => exact pe_callB hh hg hm (by decide +kernel) ha (by decide) (by decide) he hpl
    | repr => exact pe_callB hh hg hm (by decide +kernel) ha (by decide) (by decide) he hpl
    | sorted => exact pe_callB hh hg hm (by decide +kernel) ha (by decide) (by decide) he hpl
    | int => exact pe_callTy hh hg hm (by decide +kernel) ha (by decide) (by decide) he hpl
    | list => exact pe_callTy hh hg hm (by decide +kernel) ha (by decide) (by decide) he hpl
    | tuple => exact pe_callTy hh hg hm (by decide +kernel) ha (by decide) (by decide) he hpl
    | str => exact pe_callTy hh hg hm (by decide +kernel) ha (by decide) (by decide) he hpl
    | dict => exact pe_callTy hh hg hm (by decide +kernel) ha (by decide) (by decide) he hpl
  refine PE.by h fun σ H Q ⟨γ, s, m, hr, sl, h⟩ => ?_
  simp only [evE] at h
  refine TXs.go hr sl h fun γ1 m1 ds vs H1 g1 hr1 sl1 rs h1 => ?_
  cases hi : biD bi ds m1 with
  | none => rw [hi] at h1; exact h1.elim
  | some r =>
    rw [hi] at h1
    exact ⟨γ1, ds, m1, r, hr1, rs, hi, fun γ' v' H' g' hr' rv' => h1 γ' v' H' g' hr' rv'⟩
def tyNm : Ty → Str
  | .int => "int" | .bool => "bool" | .str => "str" | .list => "list" | .tuple => "tuple" | .dict => "dict" | .cls c => clsName c
def tyS : Ty → String
  | .int => "int" | .bool => "bool" | .str => "str" | .list => "list" | .tuple => "tuple" | .dict => "dict" | .cls _ => ""
/-- the name of a class, read -/
def TyOk (X : Cx) (t : Ty) : Prop := Gl X (tyNm t) ∧ (match t with | .cls c => ∃ C, X.mg (clsName c) = some (.ref C) | t => X.mg (tyNm t) = none) ∧ (tyNm t == ("__debug__" : Str)) = false
def ClsOf (mg : Str → Option Value) (t : Ty) (v : V) (u : Value) : Prop := match t with
  | .cls c => ∃ C, mg (clsName c) = some (.ref C) ∧ v = .ref C ∧ u = .ref C
  | t => v = .ty (tyS t) ∧ u = .type (tyS t)
theorem pe_tyN {t : Ty} (h : TyOk X t) {p : Pos} : ∃ v u, ClsOf X.mg t v u ∧ ClsV v u ∧ PE X (.Name (tyNm t) p) (tC v) := by
  obtain ⟨h1, h2, h3⟩ := h
  cases t with
  | cls c =>
    obtain ⟨C, hC⟩ := h2
    exact ⟨.ref C, .ref C, ⟨C, hC, rfl, rfl⟩, .own C, pe_glob h1 hC rfl h3⟩
  | int => exact ⟨_, _, ⟨rfl, rfl⟩, .ty _, pe_bltn h1 h2 (by decide +kernel) rfl (by decide) (by decide)⟩
  | bool => exact ⟨_, _, ⟨rfl, rfl⟩, .ty _, pe_bltn h1 h2 (by decide +kernel) rfl (by decide) (by decide)⟩
  | str => exact ⟨_, _, ⟨rfl, rfl⟩, .ty _, pe_bltn h1 h2 (by decide +kernel) rfl (by decide) (by decide)⟩
  | list => exact ⟨_, _, ⟨rfl, rfl⟩, .ty _, pe_bltn h1 h2 (by decide +kernel) rfl (by decide) (by decide)⟩
  | tuple => exact ⟨_, _, ⟨rfl, rfl⟩, .ty _, pe_bltn h1 h2 (by decide +kernel) rfl (by decide) (by decide)⟩
  | dict => exact ⟨_, _, ⟨rfl, rfl⟩, .ty _, pe_bltn h1 h2 (by decide +kernel) rfl (by decide) (by decide)⟩
def kV' (mg : Str → Option Value) (k : Kd) (t : Value) : Prop := match k with
  | .own c => ∃ C, mg (clsName c) = some (.ref C) ∧ t = .ref C
  | k => t = .type (kdS k)
theorem tyX_m (o : Ok0 g lv X.prog X.w X.K X.mg X.base) {γ : Gh} {m : MS} {H : Hp} {v : V} {d : D} {k : Kd} (hr : HR X.mg γ m H) (r : RV γ v d) (h : tyN m d = some k) : ∃ t, kV' X.mg k t ∧ TyX X.K H v t := by
  have base : ∀ e, d = e → (∀ i, e ≠ .ref i) → tyN m e = some k → ∃ t, kV' X.mg k t ∧ TyX X.K H v t := fun e hd hne hk => by
    subst hd
    obtain ⟨t, ht, ty⟩ := tyX_of o hr r hne
    refine ⟨t, ?_, ty⟩
    cases d with
    | ref i => exact absurd rfl (hne i)
    | obj c fs => cases hk; exact ht
    | _ => cases hk; exact ht
  cases d with
  | ref i =>
    unfold tyN inner at h
    cases e : m[i]? with
    | none => simp [e] at h
    | some c =>
      obtain ⟨a, rfl, _, ck⟩ := hr.cell e r
      simp only [e] at h
      cases c with
      | lst xs => cases h; obtain ⟨vs, q, _⟩ := ck; exact ⟨_, rfl, .base (.lst q)⟩
      | dct xs => cases h; obtain ⟨vs, q, _⟩ := ck; exact ⟨_, rfl, .base (.dK q)⟩
      | ins c fs =>
        have h' : (match m[i]? with | some (.ins c _) => some (Kd.own c) | _ => none) = some k := h
        rw [e] at h'
        cases h'
        obtain ⟨C, dx, fw, q, hC, _⟩ := ck
        have F := o.cls c C hC
        exact ⟨_, ⟨C, hC, rfl⟩, .base (.ins q F.cls F.ha F.hn F.htk F.hm)⟩
      | dead =>
        have h' : (match m[i]? with | some (.ins c _) => some (Kd.own c) | _ => none) = some k := h
        rw [e] at h'
        cases h'
  | obj c fs => exact base _ rfl (fun _ z => nomatch z) h
  | non => exact base _ rfl (fun _ z => nomatch z) h
  | bl b => exact base _ rfl (fun _ z => nomatch z) h
  | int i => exact base _ rfl (fun _ z => nomatch z) h
  | str i => exact base _ rfl (fun _ z => nomatch z) h
  | tup i => exact base _ rfl (fun _ z => nomatch z) h
  | lst i => exact base _ rfl (fun _ z => nomatch z) h
  | dct i => exact base _ rfl (fun _ z => nomatch z) h
theorem kit_one (o : Ok0 g lv X.prog X.w X.K X.mg X.base) {k : Kd} {t : Ty} {tv : Value} {v : V} {u : Value} (hk : kV' X.mg k tv) (hc : ClsOf X.mg t v u) : PySem.W.kitOne X.K tv u = some (kdIs k t) := by
  have two : ∀ a b r, kitB a b = some r → PySem.W.kitOne X.K (.type a) (.type b) = some r := fun a b r h => kit_ty h
  cases t with
  | cls c =>
    obtain ⟨C, hC, _, rfl⟩ := hc
    cases k with
    | own d =>
      obtain ⟨D, hD, rfl⟩ := hk
      exact (o.two c d C D hC hD).1
    | non => cases hk; exact (o.cls c C hC).isC _ (by simp [kdS])
    | bl => cases hk; exact (o.cls c C hC).isC _ (by simp [kdS])
    | int => cases hk; exact (o.cls c C hC).isC _ (by simp [kdS])
    | str => cases hk; exact (o.cls c C hC).isC _ (by simp [kdS])
    | tup => cases hk; exact (o.cls c C hC).isC _ (by simp [kdS])
    | lst => cases hk; exact (o.cls c C hC).isC _ (by simp [kdS])
    | dct => cases hk; exact (o.cls c C hC).isC _ (by simp [kdS])
  | _ =>
    obtain ⟨_, rfl⟩ := hc
    cases k with
    | own d =>
      obtain ⟨D, hD, rfl⟩ := hk
      exact (o.cls d D hD).isT _ (by simp [tyS])
    | _ => cases hk; exact two _ _ _ (by decide +kernel)
theorem kit_any (o : Ok0 g lv X.prog X.w X.K X.mg X.base) {k : Kd} {tv : Value} (hk : kV' X.mg k tv) : ∀ {ts : List Ty} {us : List Value}, Paired (fun t u => ∃ v, ClsOf X.mg t v u) ts us → PySem.W.kitAny X.K tv us = some (ts.any (kdIs k))
  | _, _, .nil => rfl
  | _, _, .cons (a := t) (l₁ := ts) ⟨v, h⟩ r => by
    refine kitAny_cons (kit_one o hk h) (fun hb => ?_) (fun hb => ?_)
    · rw [kit_any o hk r, List.any_cons, hb, Bool.false_or]
    · rw [List.any_cons, hb, Bool.true_or]
theorem n_inst1 (o : Ok0 g lv X.prog X.w X.K X.mg X.base) {t : Ty} {p1 p2 : Pos} (hg : Gl X "isinstance") (hm : X.mg "isinstance" = none) (ht : TyOk X t) (ha : PE X a (TX g X.mg W xi ia)) (hst : starEach [a, .Name (tyNm t) p2] X.env = (false, eval a X.env) :: starEach [.Name (tyNm t) p2] X.env) :
    PE X (.Call (.Name "isinstance" p1) [a, .Name (tyNm t) p2] [] p) (TX g X.mg W xi (.inst ia [t])) := by
  obtain ⟨v, u, hc, hv, hp⟩ := pe_tyN (p := p2) ht
  refine PE.by (pe_callB call_isi hg hm (by decide +kernel) (pa_cons ha (pa_cons hp pa_nil) hst) (by decide) (by decide) hst (by rfl)) fun σ H Q ⟨γ, s, m, hr, sl, h⟩ => ?_
  simp only [evE] at h
  refine TX.go hr sl h fun γ1 m1 d w H1 g1 hr1 sl1 rv h1 => ?_
  simp only [List.any_cons, List.any_nil, Bool.or_false] at h1
  cases hk : tyN m1 d with
  | none => rw [hk] at h1; exact h1.elim
  | some k =>
    rw [hk] at h1
    obtain ⟨tv, hkv, ty⟩ := tyX_m o hr1 rv hk
    exact ⟨w, v, tv, u, _, rfl, hv, ty, kit_one o hkv hc, h1 γ1 _ H1 .refl hr1 rfl⟩
/-- class after class -/
theorem pa_tys : ∀ (ts : List Ty) (ps : List Pos), ts.length = ps.length → (∀ t ∈ ts, TyOk X t) → ∃ vs us, Paired (fun t u => ∃ v, ClsOf X.mg t v u) ts us ∧ Paired ClsV vs us ∧ vs.length = ts.length ∧ PA X ((ts.zip ps).map fun tp => .Name (tyNm tp.1) tp.2) (fun _ H Q => Q vs H)
  | [], _, _, _ => ⟨[], [], .nil, .nil, rfl, by simp only [List.zip_nil_left, List.map_nil]; exact PA.by pa_nil fun σ H Q h => h⟩
  | t :: ts, [], h, _ => nomatch h
  | t :: ts, p :: ps, h, k => by
    obtain ⟨v, u, h1, h2, h3⟩ := pe_tyN (p := p) (k t (List.mem_cons_self ..))
    obtain ⟨vs, us, q1, q2, q3, q4⟩ := pa_tys ts ps (by simpa using h) fun t ht => k t (List.mem_cons_of_mem _ ht)
    exact ⟨v :: vs, u :: us, .cons ⟨v, h1⟩ q1, .cons h2 q2, by simp [q3], PA.by (pa_cons h3 q4) fun σ H Q h => h⟩
theorem n_inst (o : Ok0 g lv X.prog X.w X.K X.mg X.base) {ts : List Ty} {ps : List Pos} {x1} {p1 p2 : Pos} (hl : ts.length = ps.length) (hn : ts.length ≤ 20) (hg : Gl X "isinstance") (hm : X.mg "isinstance" = none) (ht : ∀ t ∈ ts, TyOk X t) (ha : PE X a (TX g X.mg W xi ia))
    (hst : starEach [a, .Tuple ((ts.zip ps).map fun tp => .Name (tyNm tp.1) tp.2) x1 p2] X.env = (false, eval a X.env) :: starEach [.Tuple ((ts.zip ps).map fun tp => .Name (tyNm tp.1) tp.2) x1 p2] X.env) :
    PE X (.Call (.Name "isinstance" p1) [a, .Tuple ((ts.zip ps).map fun tp => .Name (tyNm tp.1) tp.2) x1 p2] [] p) (TX g X.mg W xi (.inst ia ts)) := by
  obtain ⟨vs, us, q1, q2, q3, q4⟩ := pa_tys (X := X) ts ps hl ht
  refine PE.by (pe_callB call_isiT hg hm (by decide +kernel) (pa_cons ha (pa_cons (pe_tup q4) pa_nil) hst) (by decide) (by decide) hst (by rfl)) fun σ H Q ⟨γ, s, m, hr, sl, h⟩ => ?_
  simp only [evE] at h
  refine TX.go hr sl h fun γ1 m1 d w H1 g1 hr1 sl1 rv h1 => ?_
  cases hk : tyN m1 d with
  | none => rw [hk] at h1; exact h1.elim
  | some k =>
    rw [hk] at h1
    refine ⟨maxLen_le (by rw [q3]; unfold maxLen; omega), fun n hn => ?_⟩
    have hr2 := hr1.obs (o := .tup vs) hn
    obtain ⟨tv, hkv, ty⟩ := tyX_m o hr2.1 rv hk
    exact ⟨w, n, vs, tv, us, _, rfl, upd_same, q2, ty, kit_any o hkv q1, h1 γ1 _ _ hr2.2 hr2.1 rfl⟩
end
end DI
end

section
set_option linter.all false
set_option maxRecDepth 100000
set_option maxHeartbeats 1000000
/-! DI.S9a: repr of data. -/
namespace DI
open PySem L2
open PyProof.Rows hiding St
mutual
theorem noDict : ∀ (n : Nat) {d : D} {p : PyData}, toP n d = some p → p.hasDict = false
  | 0, d, p, h => by simp [toP] at h
  | n + 1, d, p, h => by
    have all : ∀ {xs : List D} {ps : List PyData}, allP (toP n) xs = some ps → PyData.hasDictAll ps = false := by
      intro xs
      induction xs with
      | nil => intro ps h; simp [allP] at h; subst h; rfl
      | cons x xs ih =>
        intro ps h
        simp only [allP] at h
        split at h
        · rename_i q qs e1 e2
          cases h
          have a := noDict n e1
          have b := ih e2
          simp [PyData.hasDictAll, a, b]
        · cases h
    cases d with
    | non => simp [toP] at h; subst h; rfl
    | bl b => simp [toP] at h; subst h; rfl
    | int i => simp [toP] at h; subst h; rfl
    | str s => simp [toP] at h; obtain ⟨_, rfl⟩ := h; rfl
    | tup xs =>
      simp [toP] at h
      obtain ⟨ps, e, rfl⟩ := h
      exact all e
    | lst xs =>
      simp [toP] at h
      obtain ⟨ps, e, rfl⟩ := h
      exact all e
    | _ => simp [toP] at h
end
def isStarX' : Expr → Bool
  | .Starred _ _ => true
  | _ => false
section
variable {X : Cx}
theorem call_repr_d (hg : X.A.guards = some []) (hu : X.A.units + 12 < cLine) : CallR X (.builtin "repr") (fun xs H Q => ∃ γ x d m p, xs = [x] ∧ HR X.mg γ m H ∧ RV γ x d ∧ toP 9 d = some p ∧ p.showable = true ∧ p.shown.length ≤ maxLen ∧ Q (.str p.shown) H) := by
  intro pins s σ H xs us Q I r h
  obtain ⟨γ, x, d, m, p, rfl, hr, rv, hp, hs, hz, q⟩ := h
  obtain ⟨u, rfl, ru⟩ := vals1 r
  obtain ⟨d1, l1, z1⟩ := dp_of (K := X.K) hr 9 hp rv
  obtain ⟨as, r1⟩ := Dp.reads I p x u d1 ru
  have hz' := maxLen_le hz
  cases r1 with
  | none => exact PySem.P.repr_of_none ⟨.str _, H, I.tok _, ⟨_, rfl⟩, q⟩
  | bool b => exact PySem.P.repr_of_bool ⟨.str _, H, I.tok _, ⟨_, rfl⟩, by simpa [PyData.shown] using q⟩
  | int i t => exact PySem.P.repr_of_int (by simpa [PyData.showable] using hs) ⟨.str _, H, I.tok _, ⟨_, rfl⟩, by simpa [PyData.shown] using q⟩
  | str y t => exact PySem.P.repr_of_str ⟨.str _, H, I.tok _, ⟨_, rfl⟩, by simpa [PyData.shown] using q⟩ (by simpa [PyData.shown] using hz')
  | list h1 h2 h3 h4 =>
    exact repr_of_reads' (.list h1 h2 h3 h4) hs (fun z => by rw [noDict 9 hp] at z; cases z) hg (by omega) (fun b o e => e) (fun h' u' tk hk => ⟨.str _, H, I.kept hk, ⟨_, rfl⟩, q⟩) hz'
  | tuple h1 h2 h3 h4 =>
    exact repr_of_reads' (.tuple h1 h2 h3 h4) hs (fun z => by rw [noDict 9 hp] at z; cases z) hg (by omega) (fun b o e => e) (fun h' u' tk hk => ⟨.str _, H, I.kept hk, ⟨_, rfl⟩, q⟩) hz'
  | dict h1 h2 h3 h4 h5 => cases d1
/-- repr of what has a repr here -/
theorem call_reprR (hg : X.A.guards = some []) (hu : X.A.units + 12 < cLine) : CallR X (.builtin "repr") (fun xs H Q => ∃ γ x d m r, xs = [x] ∧ HR X.mg γ m H ∧ RV γ x d ∧ reprD d = some r ∧ ∀ v, RV γ v r → Q v H) := by
  intro pins s σ H xs us Q I ru h
  obtain ⟨γ, x, d, m, r, rfl, hr, rv, h, q⟩ := h
  unfold reprD at h
  split at h
  · rename_i p hp
    split at h
    · rename_i hz
      cases h
      have base : toP 9 d = some p → wpAny (model X.prog X.w) X.A (call (.builtin "repr") us) (EP X pins σ Q) X.xe s := fun hp => call_repr_d hg hu pins s σ H _ us Q I ru ⟨γ, x, d, m, p, rfl, hr, rv, hp, hz.1, hz.2, q _ rfl⟩
      unfold toR at hp
      split at hp
      · cases hp
        obtain ⟨a, rfl, f⟩ := rv
        obtain ⟨o, kw, e, rk⟩ := hr.fr a _ f
        cases rk
        obtain ⟨u, rfl, ru'⟩ := vals1 ru
        cases ru'
        obtain ⟨_, hsm, vs, kv, es, ep, ob, h1, h2, h3⟩ := dk_rd I.hok (.inr ⟨o, e⟩)
        cases kv
        obtain ⟨h3, _, h4, _⟩ := h3
        have e0 : ep.toList = [] := by
          generalize ep.toList = l at h4
          cases h4
          rfl
        have rd : Reads s.heap (.ref a) (.dict []) (a :: [] ++ []) := .dict h1 h2.1 h3 (by rw [e0]; exact .nil) (by rw [e0]; exact .nil)
        exact repr_of_reads' rd hz.1 (fun _ hm => by
          have : a = sysModules := by
            have hm' : sysModules ∈ ([a] : List Addr) := hm
            exact (List.mem_singleton.mp hm').symm
          rw [this] at hsm
          simp at hsm) hg (by show X.A.units + (PyData.depth (.dict []) + 1) < cLine; simp only [PyData.depth, PyData.depthKv]; omega) (fun b o e => e) (fun h' u' tk hk => ⟨.str _, H, I.kept hk, ⟨_, rfl⟩, q _ rfl⟩) (maxLen_le hz.2)
      · exact base hp
    · cases h
  · cases h
theorem n_repr {g : G} {W : WX} {xi : XI} {a : Expr} {ia : E} {p p' : Pos} (hgd : X.A.guards = some []) (hu : X.A.units + 12 < cLine) (hg : Gl X "repr") (hm : X.mg "repr" = none) (hs : isStarX' a = false) (ha : PE X a (TX g X.mg W xi ia)) : PE X (.Call (.Name "repr" p') [a] [] p) (TX g X.mg W xi (.repr ia)) :=
  PE.by (pe_callB (call_reprR hgd hu) hg hm (by decide +kernel) (pa_cons ha pa_nil (by cases a <;> first | rfl | cases hs)) (by decide) (by decide) (by cases a <;> first | rfl | cases hs) (by rfl)) fun σ H Q ⟨γ, s, m, hr, sl, h⟩ => by
    simp only [evE] at h
    refine TX.go hr sl h fun γ1 m1 d v H1 g1 hr1 sl1 rv h1 => ?_
    cases hi : reprD d with
    | none => rw [hi] at h1; exact h1.elim
    | some r =>
      rw [hi] at h1
      exact ⟨γ1, v, d, m1, r, rfl, hr1, rv, hi, fun w rw' => h1 γ1 w H1 .refl hr1 rw'⟩
theorem n_eqS {g : G} {W : WX} {xi : XI} {a b : Expr} {ia ib : E} {p : Pos} (ha : PE X a (TX g X.mg W xi ia)) (hb : PE X b (TX g X.mg W xi ib)) (hm : behindInMarks .Eq b = false) : PE X (.Compare a [.Eq] [b] p) (TX g X.mg W xi (.eqS ia ib)) :=
  PE.by (pe_cmpR op_eq ha hb hm) fun σ H Q ⟨γ, s, m, hr, sl, h⟩ => by
    simp only [evE] at h
    refine TX.go hr sl h fun γ1 m1 d v H1 g1 hr1 sl1 rv h1 => ?_
    refine TX.go hr1 sl1 h1 fun γ2 m2 e w H2 g2 hr2 sl2 rw' h2 => ?_
    split at h2
    · rename_i i j
      have rv' := rv.mono g2
      cases rv'
      cases rw'
      refine ⟨rfl, h2 γ2 _ H2 .refl hr2 ?_⟩
      show V.bl _ = V.bl _
      congr 1
      rw [Bool.eq_iff_iff]
      simp
    · exact h2.elim
end
end DI
end

section
set_option linter.all false
set_option maxRecDepth 100000
set_option maxHeartbeats 1000000
/-! DI.S10: calls. -/
namespace DI
open PySem L2
open PyProof.Rows hiding St
def isStarX : Expr → Bool
  | .Starred _ _ => true
  | _ => false
theorem starEach_cons {e : Expr} {es : List Expr} {env : Env} (h : isStarX e = false) : starEach (e :: es) env = (false, eval e env) :: starEach es env := by
  cases e <;> first | rfl | cases h
theorem backTo_any (pos : Pos) : ∀ (es : List Expr) (env : Env), es.all (fun e => !isStarX e) = true → (backTo pos (starEach es env)).any (·.1) = false
  | [], _, _ => rfl
  | e :: es, env, h => by
    rw [List.all_cons, Bool.and_eq_true] at h
    rw [starEach_cons (by simpa using h.1)]
    have := backTo_any pos es env h.2
    simpa [backTo] using this
def kwNames : List Keyword → Option (List Str)
  | [] => some []
  | ⟨some x, _, _⟩ :: r => (kwNames r).map (x :: ·)
  | _ => none
theorem kwNames_ok (pos : Pos) (env : Env) : ∀ {kws : List Keyword} {ks : List Str}, kwNames kws = some ks → (backToKw pos (keywordEach kws env)).all (·.1.isSome) = true ∧ (backToKw pos (keywordEach kws env)).filterMap (·.1) = ks ∧ (backToKw pos (keywordEach kws env)).any (·.1.isNone) = false
  | [], ks, h => by cases h; exact ⟨rfl, rfl, rfl⟩
  | ⟨some x, e, p⟩ :: r, ks, h => by
    simp only [kwNames] at h
    cases e : kwNames r with
    | none => rw [e] at h; cases h
    | some l =>
      rw [e] at h
      cases h
      obtain ⟨h1, h2, h3⟩ := kwNames_ok pos env e
      simp only [keywordEach, backToKw, List.map_cons] at h1 h2 h3 ⊢
      refine ⟨by simpa using h1, by simpa using h2, by simpa using h3⟩
  | ⟨none, e, p⟩ :: r, ks, h => by cases h

theorem attr_plain {o : Expr} {f : Str} {env : Env} (h : (match o with | .Call (.Name id _) [] [] _ => id != ("super" : Str) | _ => true) = true) : attributeBase o f env (eval o env) = eval o env := by
  split at h
  · exact abase_call h
  · rename_i hn
    unfold attributeBase
    split
    · rename_i e id x1 x2
      exact absurd rfl (hn id x1 x2)
    · rfl
theorem mcall_plain {o : Expr} {m : Str} {apos pos : Pos} {args : List Expr} {kws : List Keyword} {ks : List Str} {env : Env} (hb : attributeBase o m env (eval o env) = eval o env) (hs : args.all (fun e => !isStarX e) = true) (hk : kwNames kws = some ks)
    (hn : args.length + kws.length < 29) (hl : (apos.endLine == pos.line) = true) :
    eval (.Call (.Attribute o m apos) args kws pos) env = (do
      let ov ← eval o env
      standAt apos.atName
      let (f, first) ← holding [ov] (getMethod ov m (do return (← importBound o env).getD true))
      callWith pos f first (backTo pos (starEach args env)) (backToKw pos (keywordEach kws env))) := by
  have hf : methodCallForm (args.length + kws.length) (backTo pos (starEach args env)) (backToKw pos (keywordEach kws env)) = true := by
    obtain ⟨k1, k2, k3⟩ := kwNames_ok pos env hk
    have b := backTo_any pos args env hs
    unfold methodCallForm
    have b' : (backTo pos (starEach args env)).all (fun x => !x.1) = true := by
      rw [List.all_eq_true]
      intro x hx
      have := List.any_eq_false.mp b x hx
      simpa using this
    rw [b', k1]
    simp only [Bool.and_true, Bool.true_and, decide_eq_true_eq]
    split <;> omega
  refine mcall_of (t := fun ov => do
    let (f, first) ← holding [ov] (getMethod ov m (do return (← importBound o env).getD true))
    callWith pos f first (backTo pos (starEach args env)) (backToKw pos (keywordEach kws env))) hb fun ov => ?_
  unfold methodCall calleeOf methodCallPos
  rw [hf]
  simp only [if_true, Bool.not_true, hl, Bool.or_true, Bool.false_or, pure_bind]
section
variable {X : Cx} {g : G} {W : WX} {xi : XI} {lv : Nat} {a b c : Expr} {ia ib ic : E} {p : Pos}
theorem k_nil : PK X [] (TXs g X.mg W xi []) := ⟨fun pos pins s σ H Q I ⟨γ, s', m, hr, sl, h⟩ => pk_nil.run pos pins s σ H Q I (h γ [] H .refl hr .nil)⟩
theorem k_cons {kws : List Keyword} {as : List E} {nm : Option Str} {kpos : Pos} (ha : PE X a (TX g X.mg W xi ia)) (hr : PK X kws (TXs g X.mg W xi as)) (hi : ∀ x m, splD ia x m = some [x]) : PK X (⟨nm, a, kpos⟩ :: kws) (TXs g X.mg W xi (ia :: as)) :=
  ⟨fun pos pins s σ H Q I ⟨γ, s', m, hrr, sl, h⟩ => (pk_cons ha hr).run pos pins s σ H Q I (by
    simp only [evEs] at h
    refine TX.go hrr sl h fun γ1 m1 d v H1 g1 hr1 sl1 rv h1 => ?_
    rw [hi] at h1
    refine TXs.go hr1 sl1 h1 fun γ2 m2 ds vs H2 g2 hr2 sl2 rvs h2 => ?_
    exact h2 γ2 (v :: vs) H2 .refl hr2 (.cons (rv.mono g2) rvs))⟩
/-- the arguments, then the call -/
theorem run_args {es : List Expr} {as kas : List E} {kws : List Keyword} {ks : List Str} {n : Nat} {f : Sem} {u : Value} {first : List Value} {vs0 : List V} {ds0 : List D} {pins : List (Addr × Obj)} {s : Shared} {σ : L2.St} {H : Hp} {Q : VK} {γ : Gh} {m : MS} {sl : Sl}
    (R : RunSh X.prog X.w X.K X.mg X.base lv u (vs0.length + n) ks f) (hk : PySem.W.keepIn X.K u = true) (hroom : Room lv X.A) (tk : Takes X W) (hes : es = [] → as = []) (hs : es.all (fun e => !isStarX e) = true) (hkn : kwNames kws = some ks) (hn : as.length = n) (hm : kas.length = ks.length)
    (pa : PA X es (TXs g X.mg W xi as)) (pk : PK X kws (TXs g X.mg W xi kas)) (I : Inv X pins σ H s) (r0 : Vals vs0 first) (hr : HR X.mg γ m H) (rv0 : RVs γ vs0 ds0) (hsl : SlR X.mg xi γ H σ sl)
    (h : Post RV X.mg (fun c d H' => W c d σ H') γ H ((evEs g as sl m).bind fun ds m => (evEs g kas sl m).bind fun es m => callD (some f) as.length kas.length ds0 ds es m) Q) :
    wpAny (model X.prog X.w) X.A (callWith p u first (backTo p (starEach es X.env)) (backToKw p (keywordEach kws X.env))) (EP X pins σ Q) X.xe s := by
  obtain ⟨k1, k2, k3⟩ := kwNames_ok p X.env hkn
  have fin : ∀ (us ws : List Value) (vs zs : List V) (s2 : Shared) (H2 : Hp) (γ2 : Gh) (m2 : MS) (ds es : List D), Inv X pins σ H2 s2 → Vals vs us → Vals zs ws → HR X.mg γ2 m2 H2 → RVs γ2 vs0 ds0 → RVs γ2 vs ds → RVs γ2 zs es →
      Post RV X.mg (fun c d H' => W c d σ H') γ2 H2 (callD (some f) as.length kas.length ds0 ds es m2) Q → wpAny (model X.prog X.w) X.A (call u (first ++ us) (ks.zip ws)) (EP X pins σ Q) X.xe s2 := fun us ws vs zs s2 H2 γ2 m2 ds es I2 r1 r2 hr2 q0 q1 q2 h2 => by
    simp only [callD] at h2
    split at h2
    · rename_i hl
      exact R X rfl rfl rfl rfl rfl X.A ⟨hroom, rfl⟩ pins s2 σ H2 (first ++ us) ws (vs0 ++ vs) zs Q _ γ2 _ m2 I2 (passAt tk σ) (by rw [List.length_append, q1.length, hl.1, hn]) (by rw [q2.length, hl.2, hm]) (r0.append r1) r2 hr2
        (by rw [List.append_assoc]; exact q0.append (q1.append q2)) h2
    · exact h2.elim
  cases es with
  | nil =>
    refine PySem.W.callWith_KW0 (h₀ := X.base) I.ok.mod.kin hk k1 ?_ (by simp [starEach, backTo, k3])
    cases hes rfl
    simp only [evEs, Res.bind] at h
    refine thn (pk.run p pins s σ H _ I (TXs.go hr hsl h (P := fun zs H2 => ∃ γ2 m2 es, HR X.mg γ2 m2 H2 ∧ RVs γ2 vs0 ds0 ∧ RVs γ2 zs es ∧ Post RV X.mg (fun c d H' => W c d σ H') γ2 H2 (callD (some f) 0 kas.length ds0 [] es m2) Q)
      fun γ2 m2 es zs H2 g2 hr2 sl2 rs2 h2 => ⟨γ2, m2, es, hr2, rv0.mono g2, rs2, h2⟩)) fun ws s2 ⟨zs, H2, I2, r2, γ2, m2, es2, hr2, q0', q2, h2⟩ => ⟨I2.kIn, ?_⟩
    rw [k2]
    exact fin [] ws [] zs s2 H2 γ2 m2 [] es2 I2 .nil r2 hr2 q0' .nil q2 h2
  | cons e es =>
    rw [List.all_cons, Bool.and_eq_true] at hs
    refine PySem.W.callWith_KW (h₀ := X.base) I.ok.mod.kin hk k1 ?_ (by rw [backTo_any p (e :: es) X.env (by rw [List.all_cons, hs.1, hs.2]; rfl), k3]; rfl) (starEach_cons (by simpa using hs.1))
    refine thn (pa.run p pins s σ H _ I (TXs.go hr hsl h (P := fun vs H1 => ∃ γ1 m1 ds, HR X.mg γ1 m1 H1 ∧ SlR X.mg xi γ1 H1 σ sl ∧ RVs γ1 vs0 ds0 ∧ RVs γ1 vs ds ∧ Post RV X.mg (fun c d H' => W c d σ H') γ1 H1 ((evEs g kas sl m1).bind fun es m => callD (some f) as.length kas.length ds0 ds es m) Q)
      fun γ1 m1 ds vs H1 g1 hr1 sl1 rs h1 => ⟨γ1, m1, ds, hr1, sl1, rv0.mono g1, rs, h1⟩)) fun us s1 ⟨vs, H1, I1, r1, γ1, m1, ds, hr1, sl1, q0, q1, h1⟩ => ?_
    refine thn (pk.run p pins s1 σ H1 _ I1 (TXs.go hr1 sl1 h1 (P := fun zs H2 => ∃ γ2 m2 es, HR X.mg γ2 m2 H2 ∧ RVs γ2 vs0 ds0 ∧ RVs γ2 vs ds ∧ RVs γ2 zs es ∧ Post RV X.mg (fun c d H' => W c d σ H') γ2 H2 (callD (some f) as.length kas.length ds0 ds es m2) Q)
      fun γ2 m2 es zs H2 g2 hr2 sl2 rs2 h2 => ⟨γ2, m2, es, hr2, q0.mono g2, q1.mono g2, rs2, h2⟩)) fun ws s2 ⟨zs, H2, I2, r2, γ2, m2, es2, hr2, q0', q1', q2, h2⟩ => ⟨I2.kIn, ?_⟩
    rw [k2]
    exact fin us ws vs zs s2 H2 γ2 m2 ds es2 I2 r1 r2 hr2 q0' q1' q2 h2
/-- how a def or class is called by name -/
structure CallOk (X : Cx) (lv : Nat) (x : Str) (n : Nat) (ks : List Str) (f : Sem) : Prop where
  gl : Gl X x
  deb : (x == ("__debug__" : Str)) = false
  ex : ∃ u, X.mg x = some u ∧ PySem.W.keepIn X.K u = true ∧ RunSh X.prog X.w X.K X.mg X.base lv u n ks f
theorem n_call {x : Str} {p' : Pos} {es : List Expr} {as kas : List E} {kws : List Keyword} {ks : List Str} {f : Sem} {k : Nat} (C : CallOk X lv x as.length ks f) (hf : g.fn[k]? = some f) (hroom : Room lv X.A) (tk : Takes X W) (hes : es = [] → as = [])
    (hs : es.all (fun e => !isStarX e) = true) (hkn : kwNames kws = some ks) (hm : kas.length = ks.length) (pa : PA X es (TXs g X.mg W xi as)) (pk : PK X kws (TXs g X.mg W xi kas)) : PE X (.Call (.Name x p') es kws p) (TX g X.mg W xi (.call k as kas)) := by
  obtain ⟨hg, hd, u, hu, hk, R⟩ := C
  refine ⟨fun pins s0 σ H Q I ⟨γ, s, m, hr, sl, h⟩ => ?_⟩
  simp only [evE, hf] at h
  refine wpAny_Call_Name_kw (ld_glob I hg hu ?_ hd)
  exact run_args (first := []) (vs0 := []) (ds0 := []) (n := as.length) (by simpa using R) hk hroom tk hes hs hkn rfl hm pa pk I .nil hr .nil sl h
theorem insOf_at {γ : Gh} {m : MS} {H : Hp} {v : V} {d : D} {c : Nat} {fs : List (Str × D)} {mg : Str → Option Value} (hr : HR mg γ m H) (r : RV γ v d) (h : insOf m d = some (c, fs)) :
    ∃ a C dx fw, v = .ref a ∧ mg (clsName c) = some (.ref C) ∧ H a = some (.ins C dx fw) ∧ RK γ fw fs := by
  cases d with
  | obj c' fs' =>
    cases h
    obtain ⟨a, rfl, e⟩ := r
    obtain ⟨C, dx, fw, q, hC, rk⟩ := hr.fr a _ e
    exact ⟨a, C, dx, fw, rfl, hC, q, rk⟩
  | ref i =>
    simp only [insOf] at h
    split at h
    · rename_i e
      cases h
      obtain ⟨a, rfl, _, C, dx, fw, q, hC, rk⟩ := hr.cell e r
      exact ⟨a, C, dx, fw, rfl, hC, q, rk⟩
    · cases h
  | _ => cases h
theorem rk_lookupN {γ : Gh} {fw : List (Str × V)} {fs : List (Str × D)} {f : Str} (r : RK γ fw fs) (h : fs.lookup f = none) : fw.lookup f = none := by
  induction r with
  | nil => rfl
  | @cons p q ps qs hh t ih =>
    obtain ⟨pk, pv⟩ := p
    obtain ⟨qk, qv⟩ := q
    obtain ⟨h1, h2⟩ := hh
    simp only at h1 h2
    subst h1
    rw [List.lookup_cons] at h ⊢
    split at h
    · cases h
    · exact ih h
theorem n_meth (o : Ok0 g lv X.prog X.w X.K X.mg X.base) {ob : Expr} {io : E} {nm : Str} {apos : Pos} {es : List Expr} {as kas : List E} {kws : List Keyword} {ks : List Str} {mi : Nat}
    (M : ∀ tab c f, g.me[mi]? = some tab → tab.lookup c = some f → MethSh X.prog X.w X.K X.mg X.base lv c nm as.length ks f) (hb : attributeBase ob nm X.env (eval ob X.env) = eval ob X.env) (hroom : Room lv X.A) (tk : Takes X W) (hes : es = [] → as = [])
    (hs : es.all (fun e => !isStarX e) = true) (hkn : kwNames kws = some ks) (hm : kas.length = ks.length) (hn : es.length + kws.length < 29) (hl : (apos.endLine == p.line) = true) (ho : PE X ob (TX g X.mg W xi io)) (pa : PA X es (TXs g X.mg W xi as)) (pk : PK X kws (TXs g X.mg W xi kas)) :
    PE X (.Call (.Attribute ob nm apos) es kws p) (TX g X.mg W xi (.meth mi nm io as kas)) := by
  refine ⟨fun pins s0 σ H Q I ⟨γ, s, m, hr, sl, h⟩ => ?_⟩
  simp only [evE] at h
  refine PySem.W.methodCall_KW (pl := do return (← importBound ob X.env).getD true) (thn (ho.run pins s0 σ H _ I (TX.go hr sl h (P := fun v H1 => ∃ γ1 m1 d f, HR X.mg γ1 m1 H1 ∧ SlR X.mg xi γ1 H1 σ s ∧ RV γ1 v d ∧ methD g mi nm d m1 = some f ∧
    Post RV X.mg (fun c d H' => W c d σ H') γ1 H1 ((evEs g as s m1).bind fun ds m => (evEs g kas s m).bind fun es m => callD (some f) as.length kas.length [d] ds es m) Q)
    fun γ1 m1 d v H1 g1 hr1 sl1 rv h1 => by
      cases hf : methD g mi nm d m1 with
      | none => rw [hf] at h1; exact h1.elim
      | some f => rw [hf] at h1; exact ⟨γ1, m1, d, f, hr1, sl1, rv, hf, h1⟩)) fun u s1 ⟨x, H1, I1, rx, γ1, m1, d, f, hr1, sl1, rv, hf, h1⟩ => ?_) (mcall_plain hb hs hkn hn hl)
  unfold methD at hf
  split at hf
  · rename_i c fs tab e1 e2
    split at hf
    · rename_i hl
      obtain ⟨C, fa, hC, Mt, R⟩ := M tab c f e2 hf
      obtain ⟨a, C', dx, fw, rfl, hC', ha, rk⟩ := insOf_at hr1 rv e1
      rw [hC] at hC'
      cases hC'
      cases rx
      refine getmeth_ok I1 ha (o.cls c C hC).cls Mt (rk_lookupN rk hl) ?_
      exact run_args (first := [.ref a]) (vs0 := [.ref a]) (ds0 := [d]) (n := as.length) (by rw [show [V.ref a].length + as.length = as.length + 1 from Nat.add_comm _ _]; exact R) Mt.kp hroom tk hes hs hkn rfl hm pa pk I1 (.cons rfl .nil) hr1 (.cons rv .nil) sl1 h1
    · cases hf
  · cases hf
end
end DI
end

section
set_option linter.all false
set_option maxRecDepth 100000
set_option maxHeartbeats 1000000
/-! DI.S11: what statements say. -/
namespace DI
open PySem L2
open PyProof.Rows hiding St
/-- a def's state: from its entry (γ0, H0) to now -/
structure StR (mg : Str → Option Value) (xi : XI) (γ0 : Gh) (H0 : Hp) (γ : Gh) (H : Hp) (σ : L2.St) (s : Sl) (m : MS) : Prop where
  gr : Grow γ0 H0 γ H
  hr : HR mg γ m H
  sl : SlR mg xi γ H σ s
  own : ∀ (i : Nat) (c : MC) (a : Addr), s[i]? = some (some (.ow c)) → σ[i]? = some (some (V.ref a)) → H0 a = none ∧ ∀ k fs, c = .ins k fs → a = γ0.me
def PoS (mg : Str → Option Value) (xi : XI) (γ0 : Gh) (H0 : Hp) (W : WX) (D : Ends) : Out → Prop
  | .nx s m => ∀ γ σ H, StR mg xi γ0 H0 γ H σ s m → D.nx σ H
  | .ret d m => ∀ γ v H, Grow γ0 H0 γ H → HR mg γ m H → RV γ v d → D.rt v H
  | .brk s m => ∀ γ σ H, StR mg xi γ0 H0 γ H σ s m → D.bk σ H
  | .ct s m => ∀ γ σ H, StR mg xi γ0 H0 γ H σ s m → D.ct σ H
  | .exc e s m => ∀ γ σ H c d, StR mg xi γ0 H0 γ H σ s m → ExR mg γ H e c d → W c d σ H
  | .stuck => False
def TSS (g : G) (mg : Str → Option Value) (W : WX) (xi : XI) (ss : List S) : TS := fun D σ H => ∃ γ0 H0 γ s m, StR mg xi γ0 H0 γ H σ s m ∧ PoS mg xi γ0 H0 W D (evSs g ss s m)
def TS1 (g : G) (mg : Str → Option Value) (W : WX) (xi : XI) (x : S) : TS := fun D σ H => ∃ γ0 H0 γ s m, StR mg xi γ0 H0 γ H σ s m ∧ PoS mg xi γ0 H0 W D (evS g x s m)
theorem PS.by {X : Cx} {st : Stmt} {t t' : TS} (h : PS X st t') (k : ∀ D σ H, t D σ H → t' D σ H) : PS X st t := ⟨fun pins s σ H D I q => h.run pins s σ H D I (k D σ H q)⟩
theorem PSs.by {X : Cx} {st : List Stmt} {t t' : TS} (h : PSs X st t') (k : ∀ D σ H, t D σ H → t' D σ H) : PSs X st t := ⟨fun pins s σ H D I q => h.run pins s σ H D I (k D σ H q)⟩
section
variable {mg : Str → Option Value} {xi : XI} {γ0 γ γ1 : Gh} {H0 H H1 : Hp} {σ : L2.St} {s : Sl} {m m1 : MS} {W : WX} {En : Ends} {g : G}
theorem StR.grow (st : StR mg xi γ0 H0 γ H σ s m) (g : Grow γ H γ1 H1) (hr : HR mg γ1 m1 H1) : StR mg xi γ0 H0 γ1 H1 σ s m1 := ⟨st.gr.trans g, hr, st.sl.grow g, st.own⟩
theorem TX.st {e : E} {F : D → MS → Out} (st : StR mg xi γ0 H0 γ H σ s m) (h : PoS mg xi γ0 H0 W En ((evE g e s m).out s F)) {P : VK} (k : ∀ γ1 m1 d v H1, StR mg xi γ0 H0 γ1 H1 σ s m1 → RV γ1 v d → PoS mg xi γ0 H0 W En (F d m1) → P v H1) : TX g mg W xi e σ H P := by
  refine ⟨γ, s, m, st.hr, st.sl, ?_⟩
  cases q : evE g e s m with
  | ok d m1 => rw [q] at h; exact fun γ' v H' g hr rv => k γ' m1 d v H' (st.grow g hr) rv h
  | exc x m1 => rw [q] at h; exact fun γ' H' c d g hr ex => h γ' σ H' c d (st.grow g hr) ex
  | stuck => rw [q] at h; exact h.elim
theorem TXs.st {e : List E} {F : List D → MS → Out} (st : StR mg xi γ0 H0 γ H σ s m) (h : PoS mg xi γ0 H0 W En ((evEs g e s m).out s F)) {P : List V → Hp → Prop} (k : ∀ γ1 m1 d v H1, StR mg xi γ0 H0 γ1 H1 σ s m1 → RVs γ1 v d → PoS mg xi γ0 H0 W En (F d m1) → P v H1) : TXs g mg W xi e σ H P := by
  refine ⟨γ, s, m, st.hr, st.sl, ?_⟩
  cases q : evEs g e s m with
  | ok d m1 => rw [q] at h; exact fun γ' v H' g hr rv => k γ' m1 d v H' (st.grow g hr) rv h
  | exc x m1 => rw [q] at h; exact fun γ' H' c d g hr ex => h γ' σ H' c d (st.grow g hr) ex
  | stuck => rw [q] at h; exact h.elim
theorem TB.st {e : E} {F : D → MS → Out} (st : StR mg xi γ0 H0 γ H σ s m) (hF : ∀ d m, (∀ b, d ≠ .bl b) → F d m = .stuck) (h : PoS mg xi γ0 H0 W En ((evE g e s m).out s F)) {P : Bool → Hp → Prop}
    (k : ∀ γ1 m1 b H1, StR mg xi γ0 H0 γ1 H1 σ s m1 → PoS mg xi γ0 H0 W En (F (.bl b) m1) → P b H1) : TB g mg W xi e σ H P := by
  refine ⟨γ, s, m, st.hr, st.sl, ?_⟩
  cases q : evE g e s m with
  | ok d m1 =>
    rw [q] at h
    simp only [Res.out] at h
    cases d with
    | bl b =>
      refine fun γ' v H' g hr hv => ?_
      have hv' : v = b := hv
      rw [hv']
      exact k γ' m1 b H' (st.grow g hr) h
    | _ =>
      rw [hF _ _ (fun b z => by cases z)] at h
      exact h.elim
  | exc x m1 => rw [q] at h; exact fun γ' H' c d g hr ex => h γ' σ H' c d (st.grow g hr) ex
  | stuck => rw [q] at h; exact h.elim
/-- a shared value in a slot -/
theorem StR.put (st : StR mg xi γ0 H0 γ H σ s m) {i : Nat} {v : V} {d : D} (r : RV γ v d) : StR mg xi γ0 H0 γ H (σ.set i (some v)) (s.set i (some (.sh d))) m := by
  have ne : ∀ {j : Nat} {x : SV}, (s.set i (some (.sh d)))[j]? = some (some x) → (x = .sh d ∧ j = i) ∨ (j ≠ i ∧ s[j]? = some (some x)) := fun {j x} h => by
    by_cases e : j = i
    · subst e
      rw [List.getElem?_set_self (by have := (List.getElem?_eq_some_iff.mp h).1; simpa using this)] at h
      cases h
      exact .inl ⟨rfl, rfl⟩
    · rw [List.getElem?_set_ne (Ne.symm e)] at h
      exact .inr ⟨e, h⟩
  refine ⟨st.gr, st.hr, ⟨by simp [st.sl.len], fun j x h => ?_, fun j k c c' a h1 h2 h3 h4 => ?_⟩, fun j c a h1 h2 => ?_⟩
  · rcases ne h with ⟨rfl, rfl⟩ | ⟨e, h'⟩
    · refine ⟨v, List.getElem?_set_self (by rw [st.sl.len]; have := (List.getElem?_eq_some_iff.mp h).1; simpa using this), r⟩
    · obtain ⟨w, e1, r1⟩ := st.sl.at_ j x h'
      exact ⟨w, by rw [List.getElem?_set_ne (Ne.symm e)]; exact e1, r1⟩
  · rcases ne h1 with ⟨z, _⟩ | ⟨e, h1'⟩
    · cases z
    · rcases ne h2 with ⟨z, _⟩ | ⟨e', h2'⟩
      · cases z
      · rw [List.getElem?_set_ne (Ne.symm e)] at h3
        rw [List.getElem?_set_ne (Ne.symm e')] at h4
        exact st.sl.ap j k c c' a h1' h2' h3 h4
  · rcases ne h1 with ⟨z, _⟩ | ⟨e, h1'⟩
    · cases z
    · rw [List.getElem?_set_ne (Ne.symm e)] at h2
      exact st.own j c a h1' h2
end
section
variable {X : Cx} {g : G} {W : WX} {xi : XI} {lv : Nat} {a b c e : Expr} {ia ib ic ie : E} {p : Pos} {st : Stmt} {rest : List Stmt} {is : S} {irest : List S}
theorem p_nil : PSs X [] (TSS g X.mg W xi []) := PSs.by pss_nil fun D σ H ⟨γ0, H0, γ, s, m, st, h⟩ => by
  simp only [evSs] at h
  exact h γ σ H st
theorem p_cons (h1 : PS X st (TS1 g X.mg W xi is)) (h2 : PSs X rest (TSS g X.mg W xi irest)) : PSs X (st :: rest) (TSS g X.mg W xi (is :: irest)) := PSs.by (pss_cons h1 h2) fun D σ H ⟨γ0, H0, γ, s, m, st, h⟩ => by
  refine ⟨γ0, H0, γ, s, m, st, ?_⟩
  simp only [evSs] at h
  cases q : evS g is s m with
  | nx s' m' => rw [q] at h; exact fun γ' σ' H' st' => ⟨γ0, H0, γ', s', m', st', h⟩
  | ret d m' => rw [q] at h; exact h
  | brk s' m' => rw [q] at h; exact h
  | ct s' m' => rw [q] at h; exact h
  | exc e s' m' => rw [q] at h; exact h
  | stuck => rw [q] at h; exact h.elim
def plainV : Expr → Bool
  | .ListComp _ _ _ _ => false | .SetComp _ _ _ _ => false | .DictComp _ _ _ _ _ => false
  | _ => true
theorem swaps_plain {e : Expr} {t : Option Expr} {l : Nat} {env : Env} (h : plainV e = true) : swapsWith e t l env = pure false := by
  cases e <;> first | rfl | cases h
theorem s_expr (he : PE X e (TX g X.mg W xi ie)) (hp : plainV e = true) : PS X (.Expr e p) (TS1 g X.mg W xi (.expr ie)) := PS.by (ps_expr he (swaps_plain hp)) fun D σ H ⟨γ0, H0, γ, s, m, st, h⟩ => by
  simp only [evS] at h
  exact TX.st st h fun γ1 m1 d v H1 st1 rv h1 => h1 γ1 σ H1 st1
theorem s_doc {x j pos pos'} : PS X (.Expr (.Constant (.str x) j pos) pos') (TS1 g X.mg W xi .pass) := PS.by ps_doc fun D σ H ⟨γ0, H0, γ, s, m, st, h⟩ => by
  simp only [evS] at h
  exact h γ σ H st
theorem s_pass : PS X (.Pass p) (TS1 g X.mg W xi .pass) := PS.by ps_pass fun D σ H ⟨γ0, H0, γ, s, m, st, h⟩ => by
  simp only [evS] at h
  exact h γ σ H st
theorem s_brk : PS X (.Break p) (TS1 g X.mg W xi .brk) := PS.by ps_break fun D σ H ⟨γ0, H0, γ, s, m, st, h⟩ => by
  simp only [evS] at h
  exact h γ σ H st
theorem s_cont : PS X (.Continue p) (TS1 g X.mg W xi .cont) := PS.by ps_continue fun D σ H ⟨γ0, H0, γ, s, m, st, h⟩ => by
  simp only [evS] at h
  exact h γ σ H st
theorem s_ret (he : PE X e (TX g X.mg W xi ie)) : PS X (.Return (some e) p) (TS1 g X.mg W xi (.ret ie)) := PS.by (ps_ret he) fun D σ H ⟨γ0, H0, γ, s, m, st, h⟩ => by
  simp only [evS] at h
  exact TX.st st h fun γ1 m1 d v H1 st1 rv h1 => h1 γ1 v H1 st1.gr st1.hr rv
theorem s_retN : PS X (.Return none p) (TS1 g X.mg W xi .retN) := PS.by ps_retN fun D σ H ⟨γ0, H0, γ, s, m, st, h⟩ => by
  simp only [evS] at h
  exact h γ .non H st.gr st.hr rfl
theorem s_if {sa sb : List Stmt} {ja jb : List S} (hc : PT X c (TB g X.mg W xi ic)) (ha : PSs X sa (TSS g X.mg W xi ja)) (hb : PSs X sb (TSS g X.mg W xi jb)) : PS X (.If c sa sb p) (TS1 g X.mg W xi (.ite ic ja jb)) := PS.by (ps_if hc ha hb) fun D σ H ⟨γ0, H0, γ, s, m, st, h⟩ => by
  simp only [evS] at h
  refine TB.st st (fun d m hd => ?_) h fun γ1 m1 b H1 st1 h1 => ?_
  · cases d <;> first | rfl | exact absurd rfl (hd _)
  · cases b with
    | true => simp only [if_true]; exact ⟨γ0, H0, γ1, s, m1, st1, h1⟩
    | false => simp only [Bool.false_eq_true, if_false]; exact ⟨γ0, H0, γ1, s, m1, st1, h1⟩
theorem s_set {i : Nat} {x : Str} {p' : Pos} (hN : X.N.Nodup) (hi : X.N[i]? = some x) (hx : Loc X.env.scope x) (hf : X.fn x = true ∨ X.env.scope.names.lookup x = some .local) (he : PE X e (TX g X.mg W xi ie)) (hp : plainV e = true) :
    PS X (.Assign [.Name x p'] e p) (TS1 g X.mg W xi (.asg (.var i) ie)) := PS.by (ps_set hN hi hx he (swaps_plain hp) hf) fun D σ H ⟨γ0, H0, γ, s, m, st, h⟩ => by
  simp only [evS] at h
  refine TX.st st h fun γ1 m1 d v H1 st1 rv h1 => ?_
  simp only [asgT, nxO] at h1
  exact h1 γ1 _ H1 (st1.put rv)
end
end DI
end

section
set_option linter.all false
set_option maxRecDepth 100000
set_option maxHeartbeats 1000000
/-! DI.S12: targets, loops. -/
namespace DI
open PySem L2
open PyProof.Rows hiding St
/-- slots vs were stored to -/
structure Ud (vs : List Nat) (σ : L2.St) (s : Sl) (σ' : L2.St) (s' : Sl) : Prop where
  len : σ'.length = σ.length
  out : ∀ i, i ∉ vs → σ'[i]? = σ[i]?
  ow : ∀ (i : Nat) (c : MC), s'[i]? = some (some (.ow c)) → i ∉ vs ∧ s[i]? = some (some (.ow c))
theorem Ud.trans {vs ws : List Nat} {σ σ1 σ2 : L2.St} {s s1 s2 : Sl} (h : Ud vs σ s σ1 s1) (k : Ud ws σ1 s1 σ2 s2) : Ud (vs ++ ws) σ s σ2 s2 :=
  ⟨k.len.trans h.len, fun i hi => by
    rw [List.mem_append, not_or] at hi
    exact (k.out i hi.2).trans (h.out i hi.1), fun i c hc => by
    obtain ⟨h1, h2⟩ := k.ow i c hc
    obtain ⟨h3, h4⟩ := h.ow i c h2
    exact ⟨fun z => (List.mem_append.mp z).elim h3 h1, h4⟩⟩
theorem SlR.put {mg : Str → Option Value} {xi : XI} {γ : Gh} {H : Hp} {σ : L2.St} {s : Sl} {i : Nat} {v : V} {d : D} (sl : SlR mg xi γ H σ s) (r : RV γ v d) : SlR mg xi γ H (σ.set i (some v)) (s.set i (some (.sh d))) ∧ Ud [i] σ s (σ.set i (some v)) (s.set i (some (.sh d))) := by
  have ne : ∀ {j : Nat} {x : SV}, (s.set i (some (.sh d)))[j]? = some (some x) → (x = .sh d ∧ j = i) ∨ (j ≠ i ∧ s[j]? = some (some x)) := fun {j x} h => by
    by_cases e : j = i
    · subst e
      rw [List.getElem?_set_self (by have := (List.getElem?_eq_some_iff.mp h).1; simpa using this)] at h
      cases h
      exact .inl ⟨rfl, rfl⟩
    · rw [List.getElem?_set_ne (Ne.symm e)] at h
      exact .inr ⟨e, h⟩
  refine ⟨⟨by simp [sl.len], fun j x h => ?_, fun j k c c' a h1 h2 h3 h4 => ?_⟩, by simp, fun j hj => ?_, fun j c hc => ?_⟩
  · rcases ne h with ⟨rfl, rfl⟩ | ⟨e, h'⟩
    · refine ⟨v, List.getElem?_set_self (by rw [sl.len]; have := (List.getElem?_eq_some_iff.mp h).1; simpa using this), r⟩
    · obtain ⟨w, e1, r1⟩ := sl.at_ j x h'
      exact ⟨w, by rw [List.getElem?_set_ne (Ne.symm e)]; exact e1, r1⟩
  · rcases ne h1 with ⟨z, _⟩ | ⟨e, h1'⟩
    · cases z
    · rcases ne h2 with ⟨z, _⟩ | ⟨e', h2'⟩
      · cases z
      · rw [List.getElem?_set_ne (Ne.symm e)] at h3
        rw [List.getElem?_set_ne (Ne.symm e')] at h4
        exact sl.ap j k c c' a h1' h2' h3 h4
  · rw [List.getElem?_set_ne (fun z => hj (by simp [z]))]
  · rcases ne hc with ⟨z, _⟩ | ⟨e, h1'⟩
    · cases z
    · exact ⟨by simpa using e, h1'⟩
theorem StR.ud {mg : Str → Option Value} {xi : XI} {γ0 γ : Gh} {H0 H : Hp} {σ σ' : L2.St} {s s' : Sl} {m : MS} {vs : List Nat} (st : StR mg xi γ0 H0 γ H σ s m) (sl : SlR mg xi γ H σ' s') (u : Ud vs σ s σ' s') : StR mg xi γ0 H0 γ H σ' s' m :=
  ⟨st.gr, st.hr, sl, fun i c a h1 h2 => by
    obtain ⟨k1, k2⟩ := u.ow i c h1
    exact st.own i c a k2 (by rw [← u.out i k1]; exact h2)⟩
/-- a target's meaning -/
def gT (mg : Str → Option Value) (xi : XI) (t : T) : TG := fun v σ H Q => ∃ γ d s s' m, HR mg γ m H ∧ SlR mg xi γ H σ s ∧ RV γ v d ∧ asgT t d s = some s' ∧ ∀ σ', SlR mg xi γ H σ' s' → Ud t.slots σ s σ' s' → Q σ' H
def gTs (mg : Str → Option Value) (xi : XI) (ts : List T) : TGs := fun vs σ H Q => ∃ γ ds s s' m, HR mg γ m H ∧ SlR mg xi γ H σ s ∧ RVs γ vs ds ∧ ds.length = ts.length ∧ asgTs ts ds s = some s' ∧ ∀ σ', SlR mg xi γ H σ' s' → Ud (T.slotss ts) σ s σ' s' → Q σ' H
theorem PG.by {X : Cx} {e : Expr} {t t' : TG} (h : PG X e t') (k : ∀ v σ H Q, t v σ H Q → t' v σ H Q) : PG X e t := ⟨fun pins s σ H v u Q I r q => h.run pins s σ H v u Q I r (k v σ H Q q)⟩
theorem PGs.by {X : Cx} {e : List Expr} {t t' : TGs} (h : PGs X e t') (k : ∀ v σ H Q, t v σ H Q → t' v σ H Q) : PGs X e t := ⟨fun pins s σ H v u Q I r q => h.run pins s σ H v u Q I r (k v σ H Q q)⟩
theorem PG.or {X : Cx} {e : Expr} {t t' : TG} (h : PG X e t) (h' : PG X e t') : PG X e (fun v σ H Q => t v σ H Q ∨ t' v σ H Q) := ⟨fun pins s σ H v u Q I r q => q.elim (fun q => h.run pins s σ H v u Q I r q) fun q => h'.run pins s σ H v u Q I r q⟩
def assignPlain : Expr → Bool
  | .Starred _ _ => false
  | _ => true
section
variable {X : Cx} {g : G} {W : WX} {xi : XI} {lv : Nat} {a b c e : Expr} {ia ib ic ie : E} {p : Pos}
theorem g_var {i : Nat} {x : Str} (hN : X.N.Nodup) (hi : X.N[i]? = some x) (hx : Loc X.env.scope x) (hf : X.fn x = true ∨ X.env.scope.names.lookup x = some .local) : PG X (.Name x p) (gT X.mg xi (.var i)) :=
  PG.by (pg_name hN hi hx hf) fun v σ H Q ⟨γ, d, s, s', m, hr, sl, r, e, k⟩ => by
    simp only [asgT] at e
    cases e
    obtain ⟨k1, k2⟩ := sl.put r
    exact k _ k1 k2
theorem gs_nil : PGs X [] (gTs X.mg xi []) := PGs.by pgs_nil fun vs σ H Q ⟨γ, ds, s, s', m, hr, sl, r, hl, e, k⟩ => by
  cases ds with
  | nil =>
    cases r
    simp only [asgTs] at e
    cases e
    exact ⟨rfl, k _ sl ⟨rfl, fun _ _ => rfl, fun i c h => ⟨by simp [T.slotss], h⟩⟩⟩
  | cons _ _ => simp at hl
theorem gs_cons {t : T} {ts : List T} {es : List Expr} (h1 : PG X e (gT X.mg xi t)) (h2 : PGs X es (gTs X.mg xi ts)) (hs : (assignEach (e :: es) X.env).map (·.2) = assign e X.env :: (assignEach es X.env).map (·.2)) : PGs X (e :: es) (gTs X.mg xi (t :: ts)) :=
  PGs.by (pgs_cons h1 h2 hs) fun vs σ H Q ⟨γ, ds, s, s', m, hr, sl, r, hl, e, k⟩ => by
    cases r with
    | nil => simp at hl
    | @cons v d vs ds r rs =>
      simp only [asgTs] at e
      cases e1 : asgT t d s with
      | none => rw [e1] at e; cases e
      | some s1 =>
        rw [e1] at e
        exact ⟨v, vs, rfl, γ, d, s, s1, m, hr, sl, r, e1, fun σ1 sl1 u1 => ⟨γ, ds, s1, s', m, hr, sl1, rs, by simpa using hl, e, fun σ2 sl2 u2 => k σ2 sl2 (by simp only [T.slotss]; exact u1.trans u2)⟩⟩
theorem g_tup {ts : List T} {es : List Expr} {k : Nat} (hc : X.calm = true) (h : PGs X es (gTs X.mg xi ts)) (hn : (assignEach es X.env).length = ts.length) (hst : (assignEach es X.env).findIdx? (·.1) = none) : PG X (.Tuple es k p) (gT X.mg xi (.tup ts)) :=
  PG.by (PG.or (pg_tup hc h hn hst) (pg_lst hc h hn hst)) fun v σ H Q ⟨γ, d, s, s', m, hr, sl, r, e, k⟩ => by
    cases d with
    | tup xs =>
      simp only [asgT] at e
      split at e
      · rename_i hl
        obtain ⟨a, rfl, f⟩ := r
        obtain ⟨vs, q, rv⟩ := hr.fr a _ f
        exact .inl ⟨a, vs, rfl, .inl q, by rw [rv.length, hl], γ, xs, s, s', m, hr, sl, rv, hl.symm, e, fun σ' sl' u => k σ' sl' (by simp only [T.slots]; exact u)⟩
      · cases e
    | lst xs =>
      simp only [asgT] at e
      split at e
      · rename_i hl
        obtain ⟨a, rfl, f⟩ := r
        obtain ⟨vs, q, rv⟩ := hr.fr a _ f
        exact .inr ⟨a, vs, rfl, .inl q, by rw [rv.length, hl], γ, xs, s, s', m, hr, sl, rv, hl.symm, e, fun σ' sl' u => k σ' sl' (by simp only [T.slots]; exact u)⟩
      · cases e
    | _ => simp [asgT] at e
/-- target = value -/
theorem s_asg {tg : Expr} {t : T} (he : PE X e (TX g X.mg W xi ie)) (hg : PG X tg (gT X.mg xi t)) (hs : swapsWithSole [tg] e p.line X.env = pure false) (hw : swappedStores [tg] e X.env = pure none)
    (h1 : (assignEach [tg] X.env).map (·.2) = [assign tg X.env]) : PS X (.Assign [tg] e p) (TS1 g X.mg W xi (.asg t ie)) := PS.by (ps_asg he hg hs hw h1) fun D σ H ⟨γ0, H0, γ, s, m, st, h⟩ => by
  simp only [evS] at h
  refine TX.st st h fun γ1 m1 d v H1 st1 rv h1 => ?_
  cases ha : asgT t d s with
  | none => rw [ha] at h1; exact h1.elim
  | some s' =>
    rw [ha] at h1
    exact ⟨γ1, d, s, s', m1, st1.hr, st1.sl, rv, ha, fun σ' sl' u => h1 γ1 σ' H1 (st1.ud sl' u)⟩
/-- a, b = x, y -/
theorem s_par {i j : Nat} {x y : Str} {a b : Expr} {px py pt : Pos} {kt k2 : Nat} {pt2 : Pos} {ia ib : E} (hc : X.calm = true) (hN : X.N.Nodup) (hi : X.N[i]? = some x) (hj : X.N[j]? = some y) (hij : i ≠ j) (hx : X.env.scope.names.lookup x = some .local) (hy : X.env.scope.names.lookup y = some .local)
    (ha : PE X a (TX g X.mg W xi ia)) (hb : PE X b (TX g X.mg W xi ib)) (hsa : isStarX a = false) (hsb : isStarX b = false) (hia : ∀ x m, splD ia x m = some [x]) (hib : ∀ x m, splD ib x m = some [x]) (hw : swappedStores [.Tuple [.Name x px, .Name y py] kt pt] (.Tuple [a, b] k2 pt2) X.env = pure (some [x, y])) :
    PS X (.Assign [.Tuple [.Name x px, .Name y py] kt pt] (.Tuple [a, b] k2 pt2) p) (TS1 g X.mg W xi (.asg (.tup [.var i, .var j]) (.tup [ia, ib]))) :=
  PS.by (ps_par hc hN hi hj hij hx hy (pa_cons ha (pa_cons hb pa_nil (starEach_cons hsb)) (starEach_cons hsa)) hw) fun D σ H ⟨γ0, H0, γ, s, m, st, h⟩ => by
    simp only [evS, evE, evEs] at h
    refine ⟨γ, s, m, st.hr, st.sl, ?_⟩
    cases q : evE g ia s m with
    | exc z m1 => rw [q] at h; exact fun γ' H' c d gg hr ex => h γ' σ H' c d (st.grow gg hr) ex
    | stuck => rw [q] at h; exact h.elim
    | ok d m1 =>
      rw [q] at h
      simp only [Res.bind, hia, liftO] at h
      refine fun γ1 v H1 g1 hr1 r1 => ?_
      have st1 := st.grow g1 hr1
      refine ⟨γ1, s, m1, hr1, st1.sl, ?_⟩
      cases q2 : evE g ib s m1 with
      | exc z m2 => rw [q2] at h; exact fun γ' H' c d gg hr ex => h γ' σ H' c d (st1.grow gg hr) ex
      | stuck => rw [q2] at h; exact h.elim
      | ok d2 m2 =>
        rw [q2] at h
        simp only [Res.bind, hib, liftO] at h
        refine fun γ2 v2 H2 g2 hr2 r2 => ?_
        have st2 := st1.grow g2 hr2
        refine ⟨v, v2, rfl, ?_⟩
        simp only [List.nil_append, List.cons_append, List.length_cons, List.length_nil] at h
        rw [if_pos (by decide)] at h
        simp only [Res.out, asgT, asgTs, List.length_cons, List.length_nil, if_true, Option.bind_some, nxO] at h
        exact h γ2 _ H2 ((st2.put (r1.mono g2)).put r2)
/-- what is known now stays so -/
def Gh.on (γ0 γ : Gh) : Gh := ⟨γ0.as, γ.F, γ.Z, γ0.me⟩
theorem StR.rebase {mg : Str → Option Value} {γ0 γ : Gh} {H0 H : Hp} {σ : L2.St} {s : Sl} {m : MS} (st : StR mg xi γ0 H0 γ H σ s m) : StR mg xi (γ0.on γ) H0 γ H σ s m :=
  ⟨⟨st.gr.as, fun _ _ h => h, fun _ _ h => .inl h, st.gr.fr, st.gr.th, fun _ _ h => h⟩, st.hr, st.sl, st.own⟩
theorem Grow.unbase {γ0 γ γ' : Gh} {H0 H H' : Hp} (h0 : Grow γ0 H0 γ H) (h : Grow (γ0.on γ) H0 γ' H') : Grow γ0 H0 γ' H' :=
  ⟨h.as, fun a d q => h.F a d (h0.F a d q), fun a d q => (h.Fn a d q).elim (fun z => h0.Fn a d z) .inr, h.fr, h.th, fun a o q => h.Z a o (h0.Z a o q)⟩
theorem StR.unbase {mg : Str → Option Value} {γ0 γ γ' : Gh} {H0 H H' : Hp} {σ' : L2.St} {s' : Sl} {m' : MS} (h0 : Grow γ0 H0 γ H) (st : StR mg xi (γ0.on γ) H0 γ' H' σ' s' m') : StR mg xi γ0 H0 γ' H' σ' s' m' :=
  ⟨h0.unbase st.gr, st.hr, st.sl, st.own⟩
theorem PoS.rebase {mg : Str → Option Value} {γ0 γ : Gh} {H0 H : Hp} {D : Ends} {o : Out} (h0 : Grow γ0 H0 γ H) (h : PoS mg xi γ0 H0 W D o) : PoS mg xi (γ0.on γ) H0 W D o := by
  cases o with
  | nx s m => exact fun γ' σ' H' st => h γ' σ' H' (st.unbase h0)
  | ret d m => exact fun γ' v H' gg hr rv => h γ' v H' (h0.unbase gg) hr rv
  | brk s m => exact fun γ' σ' H' st => h γ' σ' H' (st.unbase h0)
  | ct s m => exact fun γ' σ' H' st => h γ' σ' H' (st.unbase h0)
  | exc e s m => exact fun γ' σ' H' c d st => h γ' σ' H' c d (st.unbase h0)
  | stuck => exact h
/-- what an iterator yields, from now on -/
def Yl (mg : Str → Option Value) (γ : Gh) (J : L2.It) (xs : List D) : Prop := ∀ γ' H' m, (∀ a d, γ.F a = some d → γ'.F a = some d) → (∀ a o, γ.Z a = some o → γ'.Z a = some o) → HR mg γ' m H' → ∀ i,
  (∀ d, xs[i]? = some d → J.go i H' ∧ ∀ x H2, J.yld i H' x H2 → ∃ γ2, Grow γ' H' γ2 H2 ∧ HR mg γ2 m H2 ∧ RV γ2 x d) ∧ (xs.length ≤ i → J.stop i H')
def TIt (g : G) (mg : Str → Option Value) (W : WX) (xi : XI) (it : It) : TI := fun σ H R => ∃ γ s m, HR mg γ m H ∧ SlR mg xi γ H σ s ∧ Post (Yl mg) mg (fun c d H' => W c d σ H') γ H (evIt g it s m) R
theorem PoS.again {mg : Str → Option Value} {γ0 : Gh} {H0 : Hp} {D : Ends} {o : Out} {N : L2.St → Hp → Prop} {F : Sl → MS → Out} (h : PoS mg xi γ0 H0 W D (match o with | .nx s m => F s m | .ct s m => F s m | .brk s m => .nx s m | o => o))
    (hN : ∀ γ σ H s m, StR mg xi γ0 H0 γ H σ s m → PoS mg xi γ0 H0 W D (F s m) → N σ H) : PoS mg xi γ0 H0 W { D with nx := N, ct := N, bk := D.nx } o := by
  cases o with
  | nx s m => exact fun γ' σ' H' st => hN γ' σ' H' s m st h
  | ret d m => exact h
  | brk s m => exact h
  | ct s m => exact fun γ' σ' H' st => hN γ' σ' H' s m st h
  | exc e s m => exact h
  | stuck => exact h
theorem forL_cons (f : D → Sl → MS → Out) (x : D) (xs : List D) (s : Sl) (m : MS) : forL f (x :: xs) s m = (match f x s m with | .nx s m => forL f xs s m | .ct s m => forL f xs s m | .brk s m => .nx s m | o => o) := by
  show (match f x s m with | .nx σ m => forL f xs σ m | .ct σ m => forL f xs σ m | .brk σ m => .nx σ m | o => o) = _
  cases f x s m <;> rfl
theorem s_for {tg iter : Expr} {it : It} {t : T} {body : List Stmt} {ib : List S} (hp : PassesOwn (model X.prog X.w) X.A X.env X.xe) (hc : X.calm = true) (hi : PI X tg iter (TIt g X.mg W xi it)) (hg : PG X tg (gT X.mg xi t)) (hb : PSs X body (TSS g X.mg W xi ib))
    (hs : ∀ x, foldedSetIterable iter X.env x = pure x) : PS X (.For tg iter body [] p) (TS1 g X.mg W xi (.for_ t it ib)) := PS.by (ps_for hp hc hi hg hb hs) fun D σ H ⟨γ0, H0, γ, s, m, st, h⟩ => by
  simp only [evS] at h
  refine ⟨γ, s, m, st.hr, st.sl, ?_⟩
  cases q : evIt g it s m with
  | exc x m1 => rw [q] at h; exact fun γ' H' c d gg hr ex => h γ' σ H' c d (st.grow gg hr) ex
  | stuck => rw [q] at h; exact h.elim
  | ok xs m1 =>
    rw [q] at h
    refine fun γ1 J H1 gg hr1 yl => ?_
    have st1 := st.grow gg hr1
    simp only [Res.out] at h
    have h' := PoS.rebase st1.gr h
    refine ⟨fun i k σ' H' => k = xs.length - i ∧ i ≤ xs.length ∧ ∃ γ' s' m', StR X.mg xi (γ0.on γ1) H0 γ' H' σ' s' m' ∧ PoS X.mg xi (γ0.on γ1) H0 W D (forL (fun d σ m => match asgT t d σ with | some σ => evSs g ib σ m | none => .stuck) (xs.drop i) s' m'),
      ⟨xs.length, by simp, Nat.zero_le _, γ1, s, m1, st1.rebase, by rw [List.drop_zero]; exact h'⟩, ?_⟩
    rintro i k σ' H' ⟨rfl, hi, γ', s', m', st', h2⟩
    obtain ⟨y1, y2⟩ := yl γ' H' m' (fun a d z => st'.gr.F a d z) (fun a o z => st'.gr.Z a o z) st'.hr i
    by_cases hlt : i < xs.length
    · have hx : xs[i]? = some xs[i] := List.getElem?_eq_getElem hlt
      obtain ⟨hgo, hy⟩ := y1 _ hx
      refine .inr ⟨hgo, fun σ2 H2 => ∃ γ2 s2 m2, StR X.mg xi (γ0.on γ1) H0 γ2 H2 σ2 s2 m2 ∧ PoS X.mg xi (γ0.on γ1) H0 W D (forL (fun d σ m => match asgT t d σ with | some σ => evSs g ib σ m | none => .stuck) (xs.drop (i + 1)) s2 m2),
        fun σ2 H2 ⟨γ2, s2, m2, z1, z2⟩ => ⟨xs.length - (i + 1), by omega, rfl, hlt, γ2, s2, m2, z1, z2⟩, fun x H2 yy => ?_⟩
      obtain ⟨γ2, g2, hr2, r2⟩ := hy x H2 yy
      have st2 := st'.grow g2 hr2
      rw [List.drop_eq_getElem_cons hlt, forL_cons] at h2
      cases ha : asgT t xs[i] s' with
      | none => rw [ha] at h2; exact h2.elim
      | some s2 =>
        rw [ha] at h2
        refine ⟨γ2, xs[i], s', s2, m', st2.hr, st2.sl, r2, ha, fun σ3 sl3 u3 => ⟨γ0.on γ1, H0, γ2, s2, m', st2.ud sl3 u3, PoS.again h2 fun γ4 σ4 H4 s4 m4 st4 z4 => ⟨γ4, s4, m4, st4, z4⟩⟩⟩
    · have e : i = xs.length := by omega
      subst e
      refine .inl ⟨y2 (Nat.le_refl _), ?_⟩
      rw [List.drop_length] at h2
      exact h2 γ' σ' H' st'
end
end DI
end

section
set_option linter.all false
set_option maxRecDepth 100000
set_option maxHeartbeats 1000000
/-! DI.S13: while; what is walked. -/
namespace DI
open PySem L2
open PyProof.Rows hiding St
theorem PI.by {X : Cx} {tg iter : Expr} {t t' : TI} (h : PI X tg iter t') (k : ∀ σ H R, t σ H R → t' σ H R) : PI X tg iter t := ⟨fun pins s σ H R I q => h.run pins s σ H R I (k σ H R q)⟩
section
variable {X : Cx} {g : G} {W : WX} {xi : XI} {lv : Nat} {a b c e : Expr} {ia ib ic ie : E} {p : Pos}
theorem s_while {body : List Stmt} {jb : List S} (hp : PassesOwn (model X.prog X.w) X.A X.env X.xe) (hc : PT X c (TB g X.mg W xi ic)) (hb : PSs X body (TSS g X.mg W xi jb)) : PS X (.While c body [] p) (TS1 g X.mg W xi (.whl ic jb)) :=
  PS.by (ps_while hp hc hb) fun D σ H ⟨γ0, H0, γ, s, m, st, h⟩ => by
    simp only [evS] at h
    unfold whl at h
    split at h
    · rename_i hn
      generalize hn.choose = n at h
      refine ⟨fun k σ H => ∃ γ s m, StR X.mg xi γ0 H0 γ H σ s m ∧ PoS X.mg xi γ0 H0 W D (whlN (fun σ m => evE g ic σ m) (fun σ m => evSs g jb σ m) k s m), ⟨n, γ, s, m, st, h⟩, ?_⟩
      rintro k σ1 H1 ⟨γ1, s1, m1, st1, h1⟩
      cases k with
      | zero => exact h1.elim
      | succ k =>
        simp only [whlN] at h1
        refine TB.st st1 (fun d m hd => ?_) h1 fun γ2 m2 b H2 st2 h2 => ?_
        · cases d <;> first | rfl | exact absurd rfl (hd _)
        · cases b with
          | false => simp only [Bool.false_eq_true, if_false]; exact h2 γ2 σ1 H2 st2
          | true =>
            simp only [if_true]
            refine ⟨fun σ3 H3 => ∃ γ3 s3 m3, StR X.mg xi γ0 H0 γ3 H3 σ3 s3 m3 ∧ PoS X.mg xi γ0 H0 W D (whlN (fun σ m => evE g ic σ m) (fun σ m => evSs g jb σ m) k s3 m3), fun σ3 H3 z => ⟨k, Nat.lt_succ_self _, z⟩, γ0, H0, γ2, s1, m2, st2, ?_⟩
            refine PoS.again (F := fun s m => whlN (fun σ m => evE g ic σ m) (fun σ m => evSs g jb σ m) k s m) ?_ fun γ3 σ3 H3 s3 m3 st3 z => ⟨γ3, s3, m3, st3, z⟩
            cases q : evSs g jb s1 m2 <;> (rw [q] at h2; exact h2)
    · exact h.elim
/-- the ends of a walk over known items -/
theorem yl_list {mg : Str → Option Value} {K : PySem.W.Frag} {γ : Gh} {a : Addr} {xs : List D} (hF : γ.F a = some (.lst xs)) : Yl mg γ (Itl K a) xs := fun γ' H' m hF' hZ' hr i => by
  have f := hF' a _ hF
  obtain ⟨vs, q, rv⟩ := hr.fr a _ f
  refine ⟨fun d hd => ?_, fun hl => ⟨vs, .inl q, by rw [rv.length]; exact hl⟩⟩
  obtain ⟨v, hv, r⟩ := RVs.get rv hd
  refine ⟨⟨vs, v, .inl q, hv⟩, fun x H2 ⟨e, y⟩ => ?_⟩
  subst e
  have := y vs (.inl q)
  rw [hv] at this
  cases this
  exact ⟨γ', .refl, hr, r⟩
theorem yl_tup {mg : Str → Option Value} {K : PySem.W.Frag} {γ : Gh} {a : Addr} {xs : List D} (hF : γ.F a = some (.tup xs)) : Yl mg γ (Itt K a) xs := fun γ' H' m hF' hZ' hr i => by
  have f := hF' a _ hF
  obtain ⟨vs, q, rv⟩ := hr.fr a _ f
  refine ⟨fun d hd => ?_, fun hl => ⟨vs, .inl q, by rw [rv.length]; exact hl⟩⟩
  obtain ⟨v, hv, r⟩ := RVs.get rv hd
  refine ⟨⟨vs, v, .inl q, hv⟩, fun x H2 ⟨e, y⟩ => ?_⟩
  subst e
  have := y vs (.inl q)
  rw [hv] at this
  cases this
  exact ⟨γ', .refl, hr, r⟩
theorem yl_rng {mg : Str → Option Value} {γ : Gh} {lo hi : Int} : Yl mg γ (Itr lo (hi - lo).toNat) ((List.range (hi - lo).toNat).map fun (k : Nat) => .int (lo + (k : Int))) := fun γ' H' m hF' hZ' hr i => by
  refine ⟨fun d hd => ?_, fun hl => by rw [List.length_map, List.length_range] at hl; exact hl⟩
  rw [List.getElem?_map] at hd
  by_cases hi' : i < (hi - lo).toNat
  · rw [List.getElem?_range hi'] at hd
    cases hd
    refine ⟨hi', fun x H2 ⟨e, y⟩ => ?_⟩
    subst e y
    exact ⟨γ', .refl, hr, rfl⟩
  · rw [List.getElem?_eq_none (by simpa using hi')] at hd
    cases hd
theorem yl_str {mg : Str → Option Value} {γ : Gh} {z : Str} : Yl mg γ (Its z) (z.cps.toList.map fun c => .str ⟨#[c]⟩) := fun γ' H' m hF' hZ' hr i => by
  refine ⟨fun d hd => ?_, fun hl => by rw [List.length_map, Array.length_toList] at hl; exact hl⟩
  rw [List.getElem?_map] at hd
  by_cases hi' : i < z.cps.size
  · have e1 : z.cps.toList[i]? = some z.cps[i] := by rw [Array.getElem?_toList]; exact Array.getElem?_eq_getElem hi'
    rw [e1] at hd
    cases hd
    refine ⟨hi', fun x H2 ⟨e, c, hc, y⟩ => ?_⟩
    rw [Array.getElem?_eq_getElem hi'] at hc
    cases hc
    subst e y
    exact ⟨γ', .refl, hr, rfl⟩
  · rw [List.getElem?_eq_none (by simpa using hi')] at hd
    cases hd
theorem dct_at {mg : Str → Option Value} {γ : Gh} {a : Addr} {kvs : List (Key × D)} {H : Hp} {m : MS} (hr : HR mg γ m H) (hF : γ.F a = some (.dct kvs)) : ∃ o kw, H a = some (.frz o (.dK kw)) ∧ γ.Z a = some (.frz o (.dK kw)) ∧ RK γ kw kvs := by
  obtain ⟨o, kw, q, rk⟩ := hr.fr a _ hF
  obtain ⟨z, hz⟩ := hr.zf a _ hF
  have := (hr.zh a z hz).1
  rw [q] at this
  cases this
  exact ⟨o, kw, q, hz, rk⟩
theorem dct_on {mg : Str → Option Value} {γ : Gh} {a : Addr} {kvs : List (Key × D)} {o : Obj} {kw : List (Key × V)} {H : Hp} {m : MS} (hr : HR mg γ m H) (hF : γ.F a = some (.dct kvs)) (hZ : γ.Z a = some (.frz o (.dK kw))) : H a = some (.frz o (.dK kw)) ∧ RK γ kw kvs := by
  obtain ⟨o', kw', q, hz, rk⟩ := dct_at hr hF
  rw [hZ] at hz
  cases hz
  exact ⟨q, rk⟩
theorem rk_get {γ : Gh} {kw : List (Key × V)} {kvs : List (Key × D)} {i : Nat} {k : Key} {d : D} (r : RK γ kw kvs) (h : kvs[i]? = some (k, d)) : ∃ v, kw[i]? = some (k, v) ∧ RV γ v d := by
  induction r generalizing i with
  | nil => simp at h
  | @cons p q ps qs hh t ih =>
    cases i with
    | zero =>
      simp at h
      subst h
      obtain ⟨pk, pv⟩ := p
      obtain ⟨h1, h2⟩ := hh
      simp only at h1 h2
      subst h1
      exact ⟨pv, rfl, h2⟩
    | succ i => exact ih (i := i) (by simpa using h)
theorem rv_key {γ : Gh} (k : Key) : RV γ (kV k) (keyOf k) := by
  cases k <;> rfl
theorem get_lt {α : Type} {xs : List α} {i : Nat} {d : α} (h : xs[i]? = some d) : i < xs.length := (List.getElem?_eq_some_iff.mp h).1
theorem yl_keys {mg : Str → Option Value} {γ : Gh} {a : Addr} {o : Obj} {kw : List (Key × V)} {kvs : List (Key × D)} (hF : γ.F a = some (.dct kvs)) (hZ : γ.Z a = some (.frz o (.dK kw))) : Yl mg γ (Itk a o kw) (kvs.map fun kv => keyOf kv.1) := fun γ' H' m hF' hZ' hr i => by
  obtain ⟨q, rk⟩ := dct_on hr (hF' _ _ hF) (hZ' _ _ hZ)
  refine ⟨fun d hd => ?_, fun hl => ⟨q, by rw [rk.length]; simpa using hl⟩⟩
  have hi := get_lt hd
  rw [List.length_map] at hi
  rw [List.getElem?_map, List.getElem?_eq_getElem hi] at hd
  cases hd
  obtain ⟨v, e, r⟩ := rk_get rk (List.getElem?_eq_getElem hi)
  refine ⟨⟨q, by rw [rk.length]; exact hi⟩, fun x H2 ⟨e1, k, v', e2, e3⟩ => ?_⟩
  rw [e] at e2
  cases e2
  subst e1 e3
  exact ⟨γ', .refl, hr, rv_key _⟩
theorem yl_vals {mg : Str → Option Value} {γ : Gh} {a : Addr} {o : Obj} {kw : List (Key × V)} {kvs : List (Key × D)} (hF : γ.F a = some (.dct kvs)) (hZ : γ.Z a = some (.frz o (.dK kw))) : Yl mg γ (Itd a o kw) (kvs.map fun kv => kv.2) := fun γ' H' m hF' hZ' hr i => by
  obtain ⟨q, rk⟩ := dct_on hr (hF' _ _ hF) (hZ' _ _ hZ)
  refine ⟨fun d hd => ?_, fun hl => ⟨q, by rw [rk.length]; simpa using hl⟩⟩
  have hi := get_lt hd
  rw [List.length_map] at hi
  rw [List.getElem?_map, List.getElem?_eq_getElem hi] at hd
  cases hd
  obtain ⟨v, e, r⟩ := rk_get rk (List.getElem?_eq_getElem hi)
  refine ⟨⟨q, by rw [rk.length]; exact hi⟩, fun x H2 ⟨e1, k, e2⟩ => ?_⟩
  rw [e] at e2
  cases e2
  subst e1
  exact ⟨γ', .refl, hr, r⟩
theorem yl_items {mg : Str → Option Value} {γ : Gh} {a : Addr} {o : Obj} {kw : List (Key × V)} {kvs : List (Key × D)} (hF : γ.F a = some (.dct kvs)) (hZ : γ.Z a = some (.frz o (.dK kw))) : Yl mg γ (Iti a o kw) (kvs.map fun kv => .tup [keyOf kv.1, kv.2]) := fun γ' H' m hF' hZ' hr i => by
  obtain ⟨q, rk⟩ := dct_on hr (hF' _ _ hF) (hZ' _ _ hZ)
  refine ⟨fun d hd => ?_, fun hl => ⟨q, by rw [rk.length]; simpa using hl⟩⟩
  have hi := get_lt hd
  rw [List.length_map] at hi
  rw [List.getElem?_map, List.getElem?_eq_getElem hi] at hd
  cases hd
  obtain ⟨v, e, r⟩ := rk_get rk (List.getElem?_eq_getElem hi)
  refine ⟨⟨q, by rw [rk.length]; exact hi⟩, fun x H2 ⟨T, k, v', e1, e2, hn, e3⟩ => ?_⟩
  rw [e] at e1
  cases e1
  subst e2 e3
  have gg : Grow γ' H' (γ'.add T (.tup [keyOf kvs[i].1, kvs[i].2]) (.tup [kV kvs[i].1, v])) (upd H' T (.tup [kV kvs[i].1, v])) := Grow.add hr hn
  exact ⟨_, gg, hr.add hn ⟨_, .inl upd_same, .cons (rv_key _) (.cons (r.mono gg) .nil)⟩, ⟨T, rfl, Gh.add_same⟩⟩
end
end DI
end

section
set_option linter.all false
set_option maxRecDepth 100000
set_option maxHeartbeats 1000000
/-! DI.S14: what a for or a comprehension walks. -/
namespace DI
open PySem L2
open PyProof.Rows hiding St
/-- the walk of a value at hand -/
def iSeq (K : PySem.W.Frag) (tl : TE) : TI := fun σ H R => tl σ H fun x H1 => (∃ a, x = .ref a ∧ (∃ xs, SqL K H1 a xs) ∧ R (Itl K a) H1) ∨ (∃ a, x = .ref a ∧ (∃ xs, SqT K H1 a xs) ∧ R (Itt K a) H1) ∨
  (∃ z, x = .str z ∧ R (Its z) H1) ∨ ∃ d o kvs, x = .ref d ∧ H1 d = some (.frz o (.dK kvs)) ∧ R (Itk d o kvs) H1
section
variable {X : Cx} {g : G} {W : WX} {xi : XI} {lv : Nat} {a b c e tg : Expr} {ia ib ic ie : E} {p : Pos}
theorem pi_seq {te : TE} (he : PE X e te) : PI X tg e (iSeq X.K te) := by
  refine ⟨fun pins s σ H R I h => ?_⟩
  refine thn (he.run pins s σ H _ I h) fun v s1 ⟨x, H1, I1, r1, q1⟩ => ?_
  rcases q1 with ⟨a, ex, ⟨xs, hq⟩, q⟩ | ⟨a, ex, ⟨xs, hq⟩, q⟩ | ⟨z, ex, q⟩ | ⟨d, o, kvs, ex, hd, q⟩
  · subst ex
    cases r1
    obtain ⟨its, rv, p, hz⟩ := I1.list hq
    refine wpAny_pyIter_list p.isList ?_
    refine ⟨s1.heap.objs.size, [s1.heap.objs.size], _, _, H1, rfl, I1.kept (t' := s1.toks) fun b o e => Heap.get?_push_of_some _ e, turn_list a _, ⟨_, Heap.get?_push_size _ rfl, rfl, rfl⟩, fun b hb => ?_, q⟩
    have e : b = s1.heap.objs.size := by simpa using hb
    subst e
    exact I1.fpOk (Nat.le_refl _) (I1.hok.fresh (Nat.le_refl _))
  · subst ex
    cases r1
    obtain ⟨its, rv, p, hz⟩ := I1.tuple hq
    refine wpAny_pyIter_tuple (show s1.heap.IsTuple a its.toArray from p) ?_
    refine ⟨s1.heap.objs.size, [s1.heap.objs.size], _, _, H1, rfl, I1.kept (t' := s1.toks) fun b o e => Heap.get?_push_of_some _ e, turn_tuple a _, ⟨_, Heap.get?_push_size _ rfl, rfl, rfl⟩, fun b hb => ?_, q⟩
    have e : b = s1.heap.objs.size := by simpa using hb
    subst e
    exact I1.fpOk (Nat.le_refl _) (I1.hok.fresh (Nat.le_refl _))
  · subst ex
    obtain ⟨t, rfl⟩ := r1
    cases ha : z.cps.all (· < 128)
    · exact wpAny_pyIter_wide ha (pi_one (tk := s1.toks) I1 _ (turn_str _ z t "str_iterator" (.inr rfl)) ⟨_, Heap.get?_push_size _ rfl, rfl, rfl⟩ q)
    · exact wpAny_pyIter_ascii ha (pi_one (tk := s1.toks) I1 _ (turn_str _ z t "str_ascii_iterator" (.inl rfl)) ⟨_, Heap.get?_push_size _ rfl, rfl, rfl⟩ q)
  · subst ex
    cases r1
    obtain ⟨hs, hgd, hx, es, ep, vs, hdt, hsz, kv, hm⟩ := I1.frzK hd
    refine iter_keys hs hgd hx hdt (pi_one (tk := s1.toks) I1 _ (turn_keys _ hdt) ⟨_, Heap.get?_push_size _ rfl, rfl, ?_⟩ q)
    rw [hsz] <;> rfl
theorem i_seq (he : PE X e (TX g X.mg W xi ie)) : PI X tg e (TIt g X.mg W xi (.seq ie)) := PI.by (pi_seq he) fun σ H R ⟨γ, s, m, hr, sl, h⟩ => by
  simp only [evIt] at h
  refine TX.go hr sl h fun γ1 m1 d v H1 g1 hr1 sl1 rv h1 => ?_
  cases d with
  | lst xs =>
    obtain ⟨a, rfl, f⟩ := rv
    obtain ⟨vs, q, _⟩ := hr1.fr a _ f
    exact .inl ⟨a, rfl, ⟨vs, .inl q⟩, h1 γ1 _ H1 .refl hr1 (yl_list f)⟩
  | tup xs =>
    obtain ⟨a, rfl, f⟩ := rv
    obtain ⟨vs, q, _⟩ := hr1.fr a _ f
    exact .inr (.inl ⟨a, rfl, ⟨vs, .inl q⟩, h1 γ1 _ H1 .refl hr1 (yl_tup f)⟩)
  | str z => exact .inr (.inr (.inl ⟨z, rv, h1 γ1 _ H1 .refl hr1 yl_str⟩))
  | dct kvs =>
    obtain ⟨a, rfl, f⟩ := rv
    obtain ⟨o, kw, q, hz, rk⟩ := dct_at hr1 f
    exact .inr (.inr (.inr ⟨a, o, kw, rfl, q, h1 γ1 _ H1 .refl hr1 (yl_keys f hz)⟩))
  | _ => exact h1.elim
theorem i_vals {apos : Pos} (he : PE X e (TX g X.mg W xi ie)) (hb : attributeBase e "values" X.env (eval e X.env) = eval e X.env) (hl : (apos.endLine == p.line) = true) : PI X tg (.Call (.Attribute e "values" apos) [] [] p) (TIt g X.mg W xi (.vals ie)) := PI.by (pi_values he hb hl) fun σ H R ⟨γ, s, m, hr, sl, h⟩ => by
  simp only [evIt] at h
  refine TX.go hr sl h fun γ1 m1 d v H1 g1 hr1 sl1 rv h1 => ?_
  cases d with
  | dct kvs =>
    obtain ⟨a, rfl, f⟩ := rv
    obtain ⟨o, kw, q, hz, rk⟩ := dct_at hr1 f
    exact ⟨a, o, kw, rfl, q, h1 γ1 _ H1 .refl hr1 (yl_vals f hz)⟩
  | _ => exact h1.elim
theorem i_items {apos tpos : Pos} {elts : List Expr} {kk : Nat} (he : PE X e (TX g X.mg W xi ie)) (hb : attributeBase e "items" X.env (eval e X.env) = eval e X.env) (hl : (apos.endLine == p.line) = true) :
    PI X (.Tuple elts kk tpos) (.Call (.Attribute e "items" apos) [] [] p) (TIt g X.mg W xi (.items ie)) := PI.by (pi_items he hb hl) fun σ H R ⟨γ, s, m, hr, sl, h⟩ => by
  simp only [evIt] at h
  refine TX.go hr sl h fun γ1 m1 d v H1 g1 hr1 sl1 rv h1 => ?_
  cases d with
  | dct kvs =>
    obtain ⟨a, rfl, f⟩ := rv
    obtain ⟨o, kw, q, hz, rk⟩ := dct_at hr1 f
    exact ⟨a, o, kw, rfl, q, h1 γ1 _ H1 .refl hr1 (yl_items f hz)⟩
  | _ => exact h1.elim
theorem rngD_some {i j : Int} {m : MS} {r : Option (List D)} (h : rngD i j = r) : r = none ∨ ((-(2 ^ 62) ≤ i ∧ i < 2 ^ 62 ∧ -(2 ^ 62) ≤ j ∧ j < 2 ^ 62) ∧ r = some ((List.range (j - i).toNat).map fun (k : Nat) => .int (i + (k : Int)))) := by
  unfold rngD at h
  split at h
  · exact .inr ⟨by assumption, h.symm⟩
  · exact .inl h.symm
theorem i_rng {p' : Pos} (hg : Gl X "range") (hm : X.mg "range" = none) (hs : isStarX a = false) (ha : PE X a (TX g X.mg W xi ia)) : PI X tg (.Call (.Name "range" p') [a] [] p) (TIt g X.mg W xi (.rng ia)) :=
  PI.by (pi_range1 hg hm (pa_cons ha pa_nil (starEach_cons hs)) (starEach_cons hs)) fun σ H R ⟨γ, s, m, hr, sl, h⟩ => by
    simp only [evIt] at h
    refine TX.go hr sl h fun γ1 m1 d v H1 g1 hr1 sl1 rv h1 => ?_
    cases d with
    | int i =>
      simp only at h1
      rcases rngD_some (m := m) (rfl : rngD 0 i = rngD 0 i) with e | ⟨⟨k1, k2, k3, k4⟩, e⟩
      · rw [e] at h1; exact h1.elim
      · rw [e] at h1
        cases rv
        have := h1 γ1 (Itr 0 (i - 0).toNat) H1 .refl hr1 yl_rng
        rw [Int.sub_zero] at this
        exact ⟨i, rfl, k3, k4, this⟩
    | _ => exact h1.elim
theorem i_rng2 {p' : Pos} (hg : Gl X "range") (hm : X.mg "range" = none) (hs : isStarX a = false) (hs2 : isStarX b = false) (ha : PE X a (TX g X.mg W xi ia)) (hb : PE X b (TX g X.mg W xi ib)) : PI X tg (.Call (.Name "range" p') [a, b] [] p) (TIt g X.mg W xi (.rng2 ia ib)) :=
  PI.by (pi_range2 hg hm (pa_cons ha (pa_cons hb pa_nil (starEach_cons hs2)) (starEach_cons hs)) (by rw [starEach_cons hs, starEach_cons hs2]; rfl) (starEach_cons hs2)) fun σ H R ⟨γ, s, m, hr, sl, h⟩ => by
    simp only [evIt] at h
    refine TX.go hr sl h fun γ1 m1 d v H1 g1 hr1 sl1 rv h1 => ?_
    refine TX.go hr1 sl1 h1 fun γ2 m2 e w H2 g2 hr2 sl2 rw' h2 => ?_
    cases d with
    | int i =>
      cases e with
      | int j =>
        simp only at h2
        rcases rngD_some (m := m) (rfl : rngD i j = rngD i j) with e | ⟨hk, e⟩
        · rw [e] at h2; exact h2.elim
        · rw [e] at h2
          cases rv
          cases rw'
          exact ⟨i, j, rfl, hk, h2 γ2 _ H2 .refl hr2 yl_rng⟩
      | _ => exact h2.elim
    | _ => exact h2.elim
end
end DI
end

section
set_option linter.all false
set_option maxRecDepth 100000
set_option maxHeartbeats 1000000
/-! DI.S15: own errors whose __init__ calls the base's. -/
namespace DI
open PySem L2
open PyProof.Rows hiding St
section
variable {X : Cx} {o e : Expr} {es : List Expr} {to te : TE} {ta : TA} {f : Str} {p p' p1 p2 pos : Pos}
theorem pe_oinit {L : Str} {CL : Addr} (hg : Gl X L) (hm : X.mg L = some (.ref CL)) (hd : (L == ("__debug__" : Str)) = false) (r : ClX.CRead X.K CL (.type "type")) (vV : PySem.W.findCls X.K (.ref CL) (.type "type") "__init__" = some (.val (.builtin "ValueError.__init__"))) (ha : PA X (e :: es) ta)
    (hs : (e :: es).all (fun e => !isStarX e) = true) (hn : (e :: es).length < 29) (hl : (p2.endLine == pos.line) = true) :
    PE X (.Call (.Attribute (.Name L p1) "__init__" p2) (e :: es) [] pos) (tVeI X.K ta) := by
  refine ⟨fun pins s σ H Q I h => ?_⟩
  rw [List.all_cons, Bool.and_eq_true] at hs
  refine PySem.W.methodCall_KW (ld_glob I hg hm ?_ hd) (mcall_plain (ks := []) (by unfold attributeBase; rfl) (by rw [List.all_cons, hs.1, hs.2]; rfl) rfl (by simpa using hn) hl)
  refine PySem.W.method_cls I.kIn r.ga (PySem.W.cls_value I.kIn r.rd vV (by decide +kernel) ?_)
  show wpAny _ _ (callWith pos (Value.builtin "ValueError.__init__") [] (backTo pos (starEach (e :: es) X.env)) []) _ _ _
  refine PyProof.Rows.callWith_method1 (thn (ha.run pos pins _ σ H _ (I.tok _) h) fun us s1 ⟨vs, H1, I1, r1, a, C, ws, ev, hl, T, ea, q⟩ => ?_) (starEach_cons (by simpa using hs.1)) (backTo_any pos es X.env hs.2)
  subst ev
  cases r1 with
  | @cons _ u0 _ ur ra rw' =>
    obtain rfl : u0 = Value.ref a := ra
    have hlen : ur.length ≤ sizeLine := by
      rw [← Paired.length rw', sizeLine_eq]
      omega
    exact oinit_ok T I1 ea hlen fun s' J => ⟨.non, H1, J, rfl, q⟩
theorem mk_endN {pins : List (Addr × Obj)} {σ : L2.St} {H1 H2 : Hp} {Q : XK} {hp hp2 h2 : Heap} {g1 g2 : Array GenState} {d1 d2 : Drawn} {t1 t2 : Nat} {os1 os2 : OsState} {a C : Addr} (T : Raises X (.ref C)) (I1 : Inv X pins σ H1 ⟨hp, g1, d1, t1, os1⟩)
    (ha : hp.objs.size ≤ a) (k : ∀ b o, hp.get? b = some o → hp2.get? b = some o) (un : Un (frs X.stack) [] (upd H1 a (exo a C none)) H2 hp2 h2) (hok : HOk X.prog X.w H2 h2) (ho : os2 = os1) (hb : AllBare g2)
    (ea : H2 a = some (exo a C none)) (q : Q (.ref C) none (del H2 a)) : MkP X pins σ Q (.ref a) ⟨h2, g2, d2, t2, os2⟩ := by
  obtain ⟨t0, hoe⟩ := exo_at hok ea
  have hn : H1 a = none := I1.hok.fresh ha
  obtain ⟨G, g1', g2'⟩ := restrict h2 fun b => decide (b ≠ a)
  have gk : ∀ b, b ≠ a → G.get? b = h2.get? b := fun b hb => g1' b (decide_eq_true hb)
  have ge : G.get? a = none := g2' a (by simp)
  have nha : ∀ {b : Addr} {o : Obj}, hp.get? b = some o → b ≠ a := fun {b o} z => Nat.ne_of_lt (Nat.lt_of_lt_of_le (Heap.lt_size z) ha)
  have up : ∀ {b : Addr}, b ≠ a → H1 b = none → upd H1 a (exo a C none) b = none := fun {b} hb n => by rw [upd_ne hb]; exact n
  have U : Un (frs X.stack) [] H1 (del H2 a) hp G := {
    keep := fun b o z n hf hx => by
      rw [gk b (nha z)]
      exact un.keep b o (k b o z) (up (nha z) n) hf hx
    slot := fun b o z n hf hx => by
      rw [gk b (nha z)]
      exact un.slot b o (k b o z) (up (nha z) n) hf hx
    free := fun b o z n hx => by
      rw [del_ne (nha z)]
      exact un.free b o (k b o z) (up (nha z) n) hx
    there := fun b o z hx => by
      rw [gk b (nha z)]
      exact un.there b o (k b o z) hx
    tups := fun b xs z => by
      rw [del_ne (ne_of_none z hn)]
      exact un.tups b xs (by rw [upd_ne (ne_of_none z hn)]; exact z)
    frzs := fun b o v z => by
      rw [del_ne (ne_of_none z hn)]
      exact un.frzs b o v (by rw [upd_ne (ne_of_none z hn)]; exact z)
    tbls := fun b ps z => by
      rw [del_ne (ne_of_none z hn)]
      exact un.tbls b ps (by rw [upd_ne (ne_of_none z hn)]; exact z) }
  have hok3 : HOk X.prog X.w (del H2 a) G := fun b o z => by
    have hba : b ≠ a := fun e => by
      rw [e, del_same] at z
      cases z
    rw [del_ne hba] at z
    have noa : ∀ {c : Addr}, H2 c = some (.own b) → c ≠ a := fun {c} hc => at_ne ea hc exo_own
    exact (hok b o z).stay (fun c v hc y => by
        have hca : c ≠ a := by
          rcases hc with hc | hc
          · rw [hc]
            exact hba
          · exact noa hc
        rw [gk c hca]
        exact y)
      (fun c hc => by rw [del_ne (noa hc)]; exact hc) (fun c xs hc => by rw [del_ne (at_ne ea hc exo_tup)]; exact hc)
  have J : Inv X pins σ (del H2 a) ⟨G, g2, d2, t2, os2⟩ := I1.call' (ch := []) ho U hok3 hb (fun b z => absurd z (by simp))
  refine ⟨a, _, _, ⟨G, g2, d2, t2, os2⟩, _, .ref C, none, rfl, J, fun b o z => ?_, ge, hoe, ⟨rfl, rfl⟩, rfl, rfl, del_same, rfl, hb, T, q⟩
  by_cases hba : b = a
  · rw [hba, ge] at z
    cases z
  · exact (gk b hba).symm.trans z
/-- what the __init__ of an own error promises: no attribute, or one -/
def initSp (C : Addr) (at_ : Option Str) : Sp := fun vs H Q _ => ∃ a ws, vs = .ref a :: ws ∧ H a = some (exo a C none) ∧ match at_ with
  | none => ws = [] ∧ Q .non H
  | some f => ∃ y, ws = [y] ∧ ∀ dx, H dx = none → dx ≠ a → Q .non (upd (upd H dx (exd dx [(f, y)])) a (exo a C (some dx)))
/-- an own error, made -/
structure ErrC (P : Program) (w : World) (K : PySem.W.Frag) (mg : Str → Option Value) (base : Heap) (k : Nat) (x : Str) (C : Addr) (at_ : Option Str) : Prop where
  at0 : mg x = some (.ref C)
  oex : OexC K C
  xf : XfC K C
  ex : ∃ fI fd ps, PySem.W.findIn K (.ref C) "__init__" = some (some (.ref fI)) ∧ PySem.W.typeIn K (.ref fI) = some (.type "function") ∧ Binds K fd ps [] ∧ FnOk P w K mg base (L2.CX P w) k fI fd ps (initSp C at_)
  no : ∀ f, at_ = some f → PySem.W.findIn K (.ref C) f = some none
def mkQ (C : Addr) (at_ : Option Str) (vs : List V) (H : Hp) (Q : XK) : Prop := match at_ with
  | none => vs = [] ∧ Q (.ref C) none H
  | some f => ∃ y, vs = [y] ∧ ∀ dx, H dx = none → Q (.ref C) (some dx) (upd H dx (.xd [(f, y)]))
theorem del_upd {H : Hp} {a : Addr} {o : HO} (h : H a = none) : del (upd H a o) a = H := by
  funext b
  by_cases e : b = a
  · rw [e, del_same, h]
  · rw [del_ne e, upd_ne e]
theorem pmk_err {k : Nat} {x : Str} {C : Addr} {at_ : Option Str} (M : ErrC X.prog X.w X.K X.mg X.base k x C at_) (hr : Room (k + 1) X.A) (hx : Passes (L2.CX X.prog X.w) X (fun _ _ _ => False)) (hg : Gl X x) (ha : PA X es ta)
    (hnil : es = [] → ∀ σ H Q, ta σ H Q → Q [] H) (hdb : (x == ("__debug__" : Str)) = false) (hs : es.all (fun e => !isStarX e) = true) :
    PMk X (.Call (.Name x p) es [] pos) (fun σ H Q => ta σ H fun vs H1 => mkQ C at_ vs H1 Q) := by
  intro pins s σ H Q I h
  obtain ⟨fI, fd, ps, iC, tI, hb, F1⟩ := M.ex
  have T := M.oex
  obtain ⟨nm, q, N, bs, bm, sn, sub, ab, col, dd, k0, k1, k2, k3, k5, hC, hbm⟩ := T.cls
  refine wpAny_Call_Name_kw (ld_glob I hg M.at0 ?_ hdb)
  have main : ∀ (us : List Value) (vs : List V) (s1 : Shared) (H1 : Hp), Inv X pins σ H1 s1 → Vals vs us → mkQ C at_ vs H1 Q → wpAny (model X.prog X.w) X.A (call (.ref C) us) (MkP X pins σ Q) X.xe s1 := fun us vs s1 H1 I1 r1 q1 => by
    have hz : vs.length ≤ 1000 := by
      cases at_ with
      | none => rw [q1.1]; simp
      | some f => obtain ⟨y, e, _⟩ := q1; rw [e]; simp
    obtain ⟨hp, g, dr, tk, os⟩ := s1
    have hsz : hp.objs.size ≤ hp.objs.size + 1 := Nat.le_succ _
    have hn : H1 (hp.objs.size + 1) = none := I1.hok.fresh hsz
    have kk : ∀ b o, hp.get? b = some o → ((hp.push (PySem.W.kdv_tup us)).push (PySem.HandSPX.excO C hp.objs.size)).get? b = some o := fun b o e => Heap.get?_push_of_some _ (Heap.get?_push_of_some _ e)
    have hget : ((hp.push (PySem.W.kdv_tup us)).push (PySem.HandSPX.excO C hp.objs.size)).get? (hp.objs.size + 1) = some (PySem.HandSPX.excO C hp.objs.size) := by heap_get
    have I2 : Inv X pins σ (upd H1 (hp.objs.size + 1) (exo (hp.objs.size + 1) C none)) ⟨(hp.push (PySem.W.kdv_tup us)).push (PySem.HandSPX.excO C hp.objs.size), g, dr, tk, os⟩ :=
      I1.laid (t' := tk) (a := hp.objs.size + 1) (o := exo (hp.objs.size + 1) C none) (h' := (hp.push (PySem.W.kdv_tup us)).push (PySem.HandSPX.excO C hp.objs.size)) kk hsz (exo_ok hget)
    have r2 : Vals (V.ref (hp.objs.size + 1) :: vs) (Value.ref (hp.objs.size + 1) :: us) := .cons rfl r1
    have hq : initSp C at_ (V.ref (hp.objs.size + 1) :: vs) (upd H1 (hp.objs.size + 1) (exo (hp.objs.size + 1) C none)) (fun v H2 => v = .non ∧ ((H2 (hp.objs.size + 1) = some (exo (hp.objs.size + 1) C none) ∧ Q (.ref C) none (del H2 (hp.objs.size + 1))) ∨
        ∃ (d : Addr) (fs : List (Str × V)), H2 (hp.objs.size + 1) = some (exo (hp.objs.size + 1) C (some d)) ∧ H2 d = some (exd d fs) ∧ H1 d = none ∧ Q (.ref C) (some d) (upd (del H2 (hp.objs.size + 1)) d (.xd fs)))) (fun _ _ _ => False) := by
      refine ⟨hp.objs.size + 1, vs, rfl, upd_same, ?_⟩
      cases at_ with
      | none =>
        obtain ⟨e, q⟩ := q1
        exact ⟨e, rfl, .inl ⟨upd_same, by rw [del_upd hn]; exact q⟩⟩
      | some f =>
        obtain ⟨y, e, q⟩ := q1
        refine ⟨y, e, fun dx hdx hne => ⟨rfl, .inr ⟨dx, [(f, y)], upd_same, by rw [upd_ne hne, upd_same], by rw [upd_ne hne] at hdx; exact hdx, ?_⟩⟩⟩
        have hdx' : H1 dx = none := by rw [upd_ne hne] at hdx; exact hdx
        have e2 : upd (del (upd (upd (upd H1 (hp.objs.size + 1) (exo (hp.objs.size + 1) C none)) dx (exd dx [(f, y)])) (hp.objs.size + 1) (exo (hp.objs.size + 1) C (some dx))) (hp.objs.size + 1)) dx (.xd [(f, y)]) = upd H1 dx (.xd [(f, y)]) := by
          funext b
          by_cases h1 : b = dx
          · rw [h1, upd_same, upd_same]
          · rw [upd_ne h1, upd_ne h1]
            by_cases h2 : b = hp.objs.size + 1
            · rw [h2, del_same, hn]
            · rw [del_ne h2, upd_ne h2, upd_ne h1, upd_ne h2]
        rw [e2]
        exact q dx hdx'
    have hl : (Value.ref (hp.objs.size + 1) :: us).length = ps.length := by
      have e := r2.length
      rw [F1.len _ _ _ _ hq] at e
      exact e.symm
    have hus : us.length ≤ sizeLine := by
      rw [← Paired.length r1, sizeLine_eq]
      omega
    have hb' := hb _ (Value.ref (hp.objs.size + 1) :: us) I2.kIn (by rw [List.append_nil]; exact hl)
    rw [List.append_nil] at hb'
    refine wpAny_call (PySem.HandSPX.call_own F.excBase_ValueError (fun Y => PySem.HandSPX.refsVE_contains Y bm hbm) (I1.kIn _ _ hC) (PySem.W.looks_findIn I1.kIn iC) (fun self => PySem.W.bind_fn I1.kIn self tI) hus
      (codeAny_mono (F1.run _ X.stack _ _ ⟨Value.ref (hp.objs.size + 1) :: us, []⟩ (Value.ref (hp.objs.size + 1) :: us) _ _ (fun _ _ _ => False) (hr.make C us []) (I2.env0.make C us []) hb' r2 hq) fun r s' hq' => ?_))
    cases r with
    | error er => exact hx pins σ _ _ er s' I2 hq'
    | ok fl =>
      cases fl with
      | ret u =>
        obtain ⟨v, H2, os2, bare2, un2, hok2, rv, ev, z⟩ := hq'
        subst ev
        obtain ⟨h2, g2, d2, t2, os'⟩ := s'
        rcases z with ⟨ea, q2⟩ | ⟨d, fs, ea, ed, hd1, q2⟩
        · exact ⟨rv, mk_endN (raises_own T.exC T.tyC) I1 hsz kk un2 hok2 os2 bare2 ea q2⟩
        · exact ⟨rv, mk_end (raises_own T.exC T.tyC) I1 hsz kk un2 hok2 os2 bare2 ea ed hd1 q2⟩
      | next => exact False.elim hq'
      | brk => exact False.elim hq'
      | cont => exact False.elim hq'
  cases es with
  | nil => 
    exact PySem.W.callWith_K0 I.kIn T.kC (main [] [] s H I .nil (hnil rfl _ _ _ h))
  | cons e es =>
    rw [List.all_cons, Bool.and_eq_true] at hs
    exact PySem.W.callWith_K (h₀ := X.base) I.ok.mod.kin T.kC (thn (ha.run pos pins s σ H _ I h) fun us s1 ⟨vs, H1, I1, r1, q1⟩ => ⟨I1.kIn, main us vs s1 H1 I1 r1 q1⟩) (starEach_cons (by simpa using hs.1)) (backTo_any pos es X.env hs.2)
end
end DI
end

section
set_option linter.all false
set_option maxRecDepth 100000
set_option maxHeartbeats 1000000
/-! DI.S16: raise, try. -/
namespace DI
open PySem L2
open PyProof.Rows hiding St
section
variable {X : Cx} {g : G} {W : WX} {xi : XI} {lv : Nat} {a b c e : Expr} {ia ib ic ie : E} {p : Pos}
theorem s_raise (hc : X.calm = true) (tk : Takes X W) {x : Str} {C : Addr} {at_ : Option Str} {es : List Expr} {as : List E} {p' p'' : Pos} {k : Nat} (M : ErrC X.prog X.w X.K X.mg X.base k x C at_) (hr : Room (k + 1) X.A) (hg : Gl X x) (hdb : (x == ("__debug__" : Str)) = false)
    (hx : x ∈ errNames) (hat : at_ = if as.length = 0 then none else some (excAttr x)) (hl : as.length ≤ 1) (hes : es = [] → as = []) (hs : es.all (fun e => !isStarX e) = true) (ha : PA X es (TXs g X.mg W xi as)) :
    PS X (.Raise (some (.Call (.Name x p') es [] p'')) none p) (TS1 g X.mg W xi (.raise x as)) := by
  have hpass : Passes (L2.CX X.prog X.w) X (fun _ _ _ => False) := fun pins σ H s e s' I c => tk e s' (XE.of_call I (fun _ _ _ h => h.elim) c)
  refine PS.by (ps_raise hc tk (pmk_err M hr hpass hg ha (fun e => by
    intro σ H Q h
    have e' := hes e
    subst e'
    obtain ⟨γ, s, m, hr, sl, h⟩ := h
    simp only [evEs] at h
    exact h γ [] H .refl hr .nil) hdb hs)) fun D σ H ⟨γ0, H0, γ, s, m, st, h⟩ => ?_
  simp only [evS] at h
  refine TXs.st st h fun γ1 m1 ds vs H1 st1 rs h1 => ?_
  split at h1
  · rename_i hl2
    cases rs with
    | nil =>
      have e0 : at_ = none := by rw [hat, if_pos (by simpa using hl2.symm)]
      subst e0
      exact ⟨rfl, h1 γ1 σ H1 _ _ st1 ⟨C, M.at0, rfl, hx, fun v hv => nomatch hv⟩⟩
    | @cons v d vs ds r rs =>
      cases rs with
      | nil =>
        have e0 : at_ = some (excAttr x) := by rw [hat, if_neg (by rw [← hl2]; simp)]
        subst e0
        refine ⟨v, rfl, fun dx hdx => ?_⟩
        obtain ⟨hr2, g2⟩ := st1.hr.obs (o := .xd [(excAttr x, v)]) hdx
        exact h1 γ1 σ _ _ _ (st1.grow g2 hr2) ⟨C, M.at0, rfl, hx, fun w hw => by cases hw; exact ⟨dx, v, rfl, upd_same, r, st1.hr.noAs hdx, st1.hr.noF hdx⟩⟩
      | cons _ _ => exact h1.elim
  · exact h1.elim
/-- another exception at hand -/
theorem StR.exs {mg : Str → Option Value} {γ0 γ : Gh} {H0 H : Hp} {σ : L2.St} {s : Sl} {m : MS} {i : Nat} {ex : Exc} {a : Addr} {cls : Value} {d : Option Addr} (st : StR mg none γ0 H0 γ H σ s m) (hx : ExR mg γ H ex cls d) :
    StR mg (some (a, cls, d)) γ0 H0 γ H (σ.set i (some (.ref a))) (s.set i (some (.ex ex))) m := by
  have ne : ∀ {j : Nat} {x : SV}, (s.set i (some (.ex ex)))[j]? = some (some x) → (x = .ex ex ∧ j = i) ∨ (j ≠ i ∧ s[j]? = some (some x)) := fun {j x} h => by
    by_cases e : j = i
    · subst e
      rw [List.getElem?_set_self (by have := (List.getElem?_eq_some_iff.mp h).1; simpa using this)] at h
      cases h
      exact .inl ⟨rfl, rfl⟩
    · rw [List.getElem?_set_ne (Ne.symm e)] at h
      exact .inr ⟨e, h⟩
  refine ⟨st.gr, st.hr, ⟨by simp [st.sl.len], fun j x h => ?_, fun j k c c' a h1 h2 h3 h4 => ?_⟩, fun j c a h1 h2 => ?_⟩
  · rcases ne h with ⟨rfl, rfl⟩ | ⟨e, h'⟩
    · exact ⟨.ref a, List.getElem?_set_self (by rw [st.sl.len]; have := (List.getElem?_eq_some_iff.mp h).1; simpa using this), a, cls, d, rfl, rfl, hx⟩
    · obtain ⟨w, e1, r1⟩ := st.sl.at_ j x h'
      refine ⟨w, by rw [List.getElem?_set_ne (Ne.symm e)]; exact e1, ?_⟩
      cases x with
      | sh d => exact r1
      | ow c => exact r1
      | ex e => obtain ⟨_, _, _, z, _⟩ := r1; cases z
  · rcases ne h1 with ⟨z, _⟩ | ⟨e, h1'⟩
    · cases z
    · rcases ne h2 with ⟨z, _⟩ | ⟨e', h2'⟩
      · cases z
      · rw [List.getElem?_set_ne (Ne.symm e)] at h3
        rw [List.getElem?_set_ne (Ne.symm e')] at h4
        exact st.sl.ap j k c c' a h1' h2' h3 h4
  · rcases ne h1 with ⟨z, _⟩ | ⟨e, h1'⟩
    · cases z
    · rw [List.getElem?_set_ne (Ne.symm e)] at h2
      exact st.own j c a h1' h2
theorem clrX_get {s : Sl} {j : Nat} {x : SV} (h : (clrX s)[j]? = some (some x)) : s[j]? = some (some x) ∧ ∀ e, x ≠ .ex e := by
  unfold clrX at h
  rw [List.getElem?_map] at h
  cases q : s[j]? with
  | none => rw [q] at h; cases h
  | some y =>
    rw [q] at h
    cases y with
    | none => cases h
    | some z =>
      cases z with
      | sh d => cases h; exact ⟨rfl, fun e z => nomatch z⟩
      | ow c => cases h; exact ⟨rfl, fun e z => nomatch z⟩
      | ex e => cases h
theorem StR.unexs {mg : Str → Option Value} {γ0 γ : Gh} {H0 H : Hp} {σ : L2.St} {s : Sl} {m : MS} {i : Nat} {xi : XI} (st : StR mg xi γ0 H0 γ H σ s m) : StR mg none γ0 H0 γ H (σ.set i none) ((clrX s).set i none) m := by
  have ne : ∀ {j : Nat} {x : SV}, ((clrX s).set i none)[j]? = some (some x) → j ≠ i ∧ s[j]? = some (some x) ∧ ∀ e, x ≠ .ex e := fun {j x} h => by
    by_cases e : j = i
    · subst e
      rw [List.getElem?_set_self (by have := (List.getElem?_eq_some_iff.mp h).1; simpa using this)] at h
      cases h
    · rw [List.getElem?_set_ne (Ne.symm e)] at h
      exact ⟨e, clrX_get h⟩
  refine ⟨st.gr, st.hr, ⟨by simp [st.sl.len, clrX], fun j x h => ?_, fun j k c c' a h1 h2 h3 h4 => ?_⟩, fun j c a h1 h2 => ?_⟩
  · obtain ⟨e, h', hn⟩ := ne h
    obtain ⟨w, e1, r1⟩ := st.sl.at_ j x h'
    refine ⟨w, by rw [List.getElem?_set_ne (Ne.symm e)]; exact e1, ?_⟩
    cases x with
    | sh d => exact r1
    | ow c => exact r1
    | ex e => exact absurd rfl (hn e)
  · obtain ⟨e, h1', _⟩ := ne h1
    obtain ⟨e', h2', _⟩ := ne h2
    rw [List.getElem?_set_ne (Ne.symm e)] at h3
    rw [List.getElem?_set_ne (Ne.symm e')] at h4
    exact st.sl.ap j k c c' a h1' h2' h3 h4
  · obtain ⟨e, h1', _⟩ := ne h1
    rw [List.getElem?_set_ne (Ne.symm e)] at h2
    exact st.own j c a h1' h2
/-- a clause's class -/
structure ClauseOk (X : Cx) (x : Str) (c : Value) : Prop where
  nm : Names X x c
  ok : ∀ e ∈ errNames, ∀ C, X.mg e = some (.ref C) → PySem.W.exmOne X.K (.ref C) c = some (takesC x e)
abbrev WF : WX := fun _ _ _ _ => False
theorem s_try_as {body suite : List Stmt} {b₀ : Stmt} {x n : Str} {c : Value} {i : Nat} {np pos' : Pos} {jb js : List S} (hs : X.stack = X.env :: X.outer) (hf : X.env.frame = some X.env.locals) (hN : X.N.Nodup) (hi : X.N[i]? = some n) (hln : X.env.kindOf n = some .local) (hc : ClauseOk X x c) (tk : Takes X W)
    (hb : ∀ (W : WX) (pn : List (Addr × Obj)) (xe : Value → Shared → Prop), Takes (X.tr pn xe) W → PassesOwn (model X.prog X.w) X.A X.env xe → PSs (X.tr pn xe) body (TSS g X.mg W none jb))
    (hsu : ∀ (a : Addr) (oe : Obj) (cls : Value) (d : Option Addr) (pn : List (Addr × Obj)), Zc cls d oe → (∃ vs, oe.data = .fields vs) → PSs (X.suite a ((a, oe) :: pn)) (b₀ :: suite) (TSS g X.mg WF (some (a, cls, d)) js)) :
    PS X (.Try body [.ExceptHandler (some (.Name x np)) (some n) (b₀ :: suite) pos'] [] [] p) (TS1 g X.mg W none (.try_ jb [(x, some i, js)])) :=
  PS.by (ps_try_as hs hf hN hi hln hc.nm tk (tb := fun W => TSS g X.mg W none jb) (ts := fun a cls d => TSS g X.mg WF (some (a, cls, d)) js) hb hsu) fun D σ H ⟨γ0, H0, γ, s, m, st, h⟩ => by
    refine ⟨γ0, H0, γ, s, m, st, ?_⟩
    simp only [evS] at h
    cases q : evSs g jb s m with
    | exc e s1 m1 =>
      rw [q] at h
      refine fun γ1 σ1 H1 cls d st1 hx => ?_
      obtain ⟨C, h1, rfl, hn, _⟩ := id hx
      refine ⟨_, hc.ok e.cls hn C h1, fun hb' => ?_, fun hb' => ?_⟩
      · intro a ha
        simp only [evH, takesX] at h
        simp only [hb', if_true] at h
        refine ⟨γ0, H0, γ1, _, m1, st1.exs (a := a) (i := i) hx, ?_⟩
        cases q2 : evSs g js (s1.set i (some (.ex e))) m1 with
        | nx s2 m2 => rw [q2] at h; exact fun γ2 σ2 H2 st2 => h γ2 _ H2 st2.unexs
        | ret d2 m2 => rw [q2] at h; exact h
        | brk s2 m2 => rw [q2] at h; exact fun γ2 σ2 H2 st2 => h γ2 _ H2 st2.unexs
        | ct s2 m2 => rw [q2] at h; exact fun γ2 σ2 H2 st2 => h γ2 _ H2 st2.unexs
        | exc e2 s2 m2 => rw [q2] at h; exact h.elim
        | stuck => rw [q2] at h; exact h.elim
      · simp only [evH, takesX] at h
        simp only [hb', Bool.false_eq_true, if_false] at h
        exact h γ1 σ1 H1 _ _ st1 hx
    | nx s1 m1 => rw [q] at h; exact h
    | ret d1 m1 => rw [q] at h; exact h
    | brk s1 m1 => rw [q] at h; exact h
    | ct s1 m1 => rw [q] at h; exact h
    | stuck => rw [q] at h; exact h.elim
theorem s_try_only {body suite : List Stmt} {b₀ : Stmt} {x : Str} {c : Value} {np pos' : Pos} {jb js : List S} (hs : X.stack = X.env :: X.outer) (hf : X.env.frame = some X.env.locals) (hc : ClauseOk X x c) (tk : Takes X W)
    (hb : ∀ (W : WX) (pn : List (Addr × Obj)) (xe : Value → Shared → Prop), Takes (X.tr pn xe) W → PassesOwn (model X.prog X.w) X.A X.env xe → PSs (X.tr pn xe) body (TSS g X.mg W none jb))
    (hsu : ∀ (a : Addr) (oe : Obj) (cls : Value) (d : Option Addr) (pn : List (Addr × Obj)), Zc cls d oe → (∃ vs, oe.data = .fields vs) → PSs (X.suite a ((a, oe) :: pn)) (b₀ :: suite) (TSS g X.mg WF none js)) :
    PS X (.Try body [.ExceptHandler (some (.Name x np)) none (b₀ :: suite) pos'] [] [] p) (TS1 g X.mg W none (.try_ jb [(x, none, js)])) :=
  PS.by (ps_try_only hs hf hc.nm tk (tb := fun W => TSS g X.mg W none jb) (ts := fun a cls d => TSS g X.mg WF none js) hb hsu) fun D σ H ⟨γ0, H0, γ, s, m, st, h⟩ => by
    refine ⟨γ0, H0, γ, s, m, st, ?_⟩
    simp only [evS] at h
    cases q : evSs g jb s m with
    | exc e s1 m1 =>
      rw [q] at h
      refine fun γ1 σ1 H1 cls d st1 hx => ?_
      obtain ⟨C, h1, rfl, hn, _⟩ := id hx
      refine ⟨_, hc.ok e.cls hn C h1, fun hb' => ?_, fun hb' => ?_⟩
      · intro a ha
        simp only [evH, takesX] at h
        simp only [hb', if_true] at h
        refine ⟨γ0, H0, γ1, _, m1, st1, ?_⟩
        cases q2 : evSs g js s1 m1 with
        | nx s2 m2 => rw [q2] at h; exact h
        | ret d2 m2 => rw [q2] at h; exact h
        | brk s2 m2 => rw [q2] at h; exact h
        | ct s2 m2 => rw [q2] at h; exact h
        | exc e2 s2 m2 => rw [q2] at h; exact h.elim
        | stuck => rw [q2] at h; exact h.elim
      · simp only [evH, takesX] at h
        simp only [hb', Bool.false_eq_true, if_false] at h
        exact h γ1 σ1 H1 _ _ st1 hx
    | nx s1 m1 => rw [q] at h; exact h
    | ret d1 m1 => rw [q] at h; exact h
    | brk s1 m1 => rw [q] at h; exact h
    | ct s1 m1 => rw [q] at h; exact h
    | stuck => rw [q] at h; exact h.elim
end
end DI
end

section
set_option linter.all false
set_option maxRecDepth 100000
set_option maxHeartbeats 1000000
/-! DI.S17: objects of a def's own; a caught error's attribute. -/
namespace DI
open PySem L2
open PyProof.Rows hiding St
section
variable {mg : Str → Option Value} {xi : XI} {γ0 γ γ1 : Gh} {H0 H H1 : Hp} {σ : L2.St} {s : Sl} {m m1 : MS} {W : WX} {g : G}
theorem COk.notX {a : Addr} {c : MC} {fs : List (Str × V)} (h : COk mg γ H a c) (hc : c ≠ .dead) : H a ≠ some (.xd fs) := fun z => by
  cases c with
  | lst xs => obtain ⟨vs, q, _⟩ := h; rw [q] at z; cases z
  | dct xs => obtain ⟨vs, q, _⟩ := h; rw [q] at z; cases z
  | ins c fs => obtain ⟨_, _, _, q, _⟩ := h; rw [q] at z; cases z
  | dead => exact hc rfl
/-- what a slot owns is changed -/
theorem StR.chg (st : StR mg xi γ0 H0 γ H σ s m) {i : Nat} {c c' : MC} {a : Addr} {o : HO} (hi : s[i]? = some (some (.ow c))) (ha : σ[i]? = some (some (V.ref a))) (hc : c ≠ .dead) (hk : ∀ k fs, c' = .ins k fs → ∃ k fs, c = .ins k fs)
    (h : ∀ H', H' a = some o → COk mg γ H' a c') : StR mg xi γ0 H0 γ (upd H a o) σ (s.set i (some (.ow c'))) m := by
  obtain ⟨v, e1, a1, rfl, co, n1, n2⟩ := st.sl.at_ i _ hi
  rw [ha] at e1
  cases e1
  obtain ⟨h0, hme⟩ := st.own i c a hi ha
  obtain ⟨oa, hoa⟩ := co.there
  have ne : ∀ {j : Nat} {x : SV}, (s.set i (some (.ow c')))[j]? = some (some x) → (x = .ow c' ∧ j = i) ∨ (j ≠ i ∧ s[j]? = some (some x)) := fun {j x} h => by
    by_cases e : j = i
    · subst e
      rw [List.getElem?_set_self (by have := (List.getElem?_eq_some_iff.mp h).1; simpa using this)] at h
      cases h
      exact .inl ⟨rfl, rfl⟩
    · rw [List.getElem?_set_ne (Ne.symm e)] at h
      exact .inr ⟨e, h⟩
  have gr : Grow γ0 H0 γ (upd H a o) := ⟨st.gr.as, st.gr.F, st.gr.Fn, fun b u q hn => by rw [upd_ne (fun z => by rw [z, h0] at q; cases q)]; exact st.gr.fr b u q hn, fun b u q => by
    obtain ⟨u', q'⟩ := st.gr.th b u q
    exact ⟨u', by rw [upd_ne (fun z => by rw [z, h0] at q; cases q)]; exact q'⟩, st.gr.Z⟩
  refine ⟨gr, st.hr.own n1 n2, ⟨by simp [st.sl.len], fun j x hx => ?_, fun j k d d' b h1 h2 h3 h4 => ?_⟩, fun j d b h1 h2 => ?_⟩
  · rcases ne hx with ⟨rfl, rfl⟩ | ⟨e, h'⟩
    · exact ⟨.ref a, ha, a, rfl, h _ upd_same, n1, n2⟩
    · obtain ⟨w, e1, r1⟩ := st.sl.at_ j x h'
      refine ⟨w, e1, ?_⟩
      cases x with
      | sh d => exact r1
      | ow d =>
        obtain ⟨b, rfl, k, k1, k2⟩ := r1
        refine ⟨b, rfl, k.at (upd_ne fun z => e ?_), k1, k2⟩
        subst z
        exact st.sl.ap j i d c b h' hi e1 ha
      | ex e =>
        obtain ⟨b, cl, d, z1, z2, C, z3, z4, z5, z6⟩ := r1
        refine ⟨b, cl, d, z1, z2, C, z3, z4, z5, fun w hw => ?_⟩
        obtain ⟨dx, u, y1, y2, y3, y4, y5⟩ := z6 w hw
        refine ⟨dx, u, y1, ?_, y3, y4, y5⟩
        rw [upd_ne (fun z => by rw [z] at y2; exact co.notX hc y2)]
        exact y2
  · rcases ne h1 with ⟨z, rfl⟩ | ⟨e, h1'⟩
    · cases z
      rcases ne h2 with ⟨z, rfl⟩ | ⟨e', h2'⟩
      · rfl
      · exact st.sl.ap _ k c d' b hi h2' h3 h4
    · rcases ne h2 with ⟨z, rfl⟩ | ⟨e', h2'⟩
      · cases z
        exact st.sl.ap j _ d c b h1' hi h3 h4
      · exact st.sl.ap j k d d' b h1' h2' h3 h4
  · rcases ne h1 with ⟨z, rfl⟩ | ⟨e, h1'⟩
    · cases z
      rw [ha] at h2
      cases h2
      exact ⟨h0, fun k fs z => by
        obtain ⟨k', fs', z'⟩ := hk k fs z
        exact hme k' fs' z'⟩
    · exact st.own j d b h1' h2
theorem rk_put {fw : List (Str × V)} {fs : List (Str × D)} {f : Str} {v : V} {d : D} (r : RK γ fw fs) (rv : RV γ v d) : RK γ (putF f v fw) (putA f d fs) := by
  induction r with
  | nil => exact .cons ⟨rfl, rv⟩ .nil
  | @cons p q ps qs hh t ih =>
    obtain ⟨pk, pv⟩ := p
    obtain ⟨qk, qv⟩ := q
    obtain ⟨h1, h2⟩ := hh
    simp only at h1 h2
    subst h1
    unfold putF putA
    by_cases e : pk = f
    · simp only [e, if_true]
      exact .cons ⟨rfl, rv⟩ t
    · simp only [e, if_false]
      exact .cons ⟨rfl, h2⟩ ih
end
section
variable {X : Cx} {g : G} {W : WX} {xi : XI} {lv : Nat} {a b c e : Expr} {ia ib ic ie : E} {p : Pos}
theorem s_atV (o : Ok0 g lv X.prog X.w X.K X.mg X.base) {i : Nat} {x f : Str} {p' p'' : Pos} (hN : X.N[i]? = some x) (hv : Vis X.env.scope x) (hd : (x == ("__debug__" : Str)) = false) (hcd : (x == ("__classdict__" : Str)) = false) (he : PE X e (TX g X.mg W xi ie)) (hp : plainV e = true) :
    PS X (.Assign [.Attribute (.Name x p'') f p'] e p) (TS1 g X.mg W xi (.atV i f ie)) := PS.by (ps_fld (pe_var hN hv hd hcd) he (swaps_plain hp)) fun D σ H ⟨γ0, H0, γ, s, m, st, h⟩ => by
  simp only [evS] at h
  refine TX.st st h fun γ1 m1 d v H1 st1 rv h1 => ?_
  simp only [ownS] at h1
  split at h1
  · rename_i c hi
    split at h1
    · rename_i c' hc'
      obtain ⟨u, e1, a, rfl, co, n1, n2⟩ := st1.sl.at_ i _ hi
      refine ⟨.ref a, e1, ?_⟩
      unfold attD at hc'
      split at hc'
      · rename_i k fs
        split at hc'
        · rename_i hl
          cases hc'
          obtain ⟨C, dx, fw, q, hC, rk⟩ := co
          refine ⟨a, C, dx, fw, rfl, q, (o.cls k C hC).cls, o.fld k f C hl.2 hC, by rw [rk.length]; omega, ?_⟩
          exact h1 γ1 σ _ (st1.chg hi e1 (fun z => nomatch z) (fun _ _ _ => ⟨k, fs, rfl⟩) fun H' hH => ⟨C, dx, _, hH, hC, rk_put rk rv⟩)
        · cases hc'
      · cases hc'
    · exact h1.elim
  · exact h1.elim
theorem n_exA {x n f : Str} {i : Nat} {a : Addr} {oe : Obj} {cls : Value} {d : Option Addr} {pn : List (Addr × Obj)} {p' : Pos} (hz : Zc cls d oe) (hf : ∃ vs, oe.data = .fields vs) (hN : X.N[i]? = some x) (hv : Vis X.env.scope x) (hd : (x == ("__debug__" : Str)) = false) (hcd : (x == ("__classdict__" : Str)) = false)
    (hx : ∀ e ∈ errNames, ∀ C, X.mg e = some (.ref C) → XfC X.K C ∧ PySem.W.findIn X.K (.ref C) (excAttr e) = some none) :
    PE (X.suite a ((a, oe) :: pn)) (.Attribute (.Name x p') f p) (TX g X.mg W (some (a, cls, d)) (.exA i f)) := by
  by_cases ex : ∃ C, cls = .ref C ∧ XfC X.K C ∧ PySem.W.findIn X.K (.ref C) f = some none
  · obtain ⟨C, rfl, T, no⟩ := ex
    refine PE.by (pe_xf T no hz hf (pe_var (X := X.suite a ((a, oe) :: pn)) (i := i) hN hv hd hcd)) fun σ H Q ⟨γ, s, m, hr, sl, h⟩ => ?_
    simp only [evE] at h
    split at h
    · rename_i e hi
      split at h
      · rename_i ef
        obtain ⟨v, e1, a', c', d', e2, rfl, C', e3, e4, e5, e6⟩ := sl.at_ i _ hi
        cases e2
        cases ha : e.arg with
        | none => rw [ha] at h; exact h.elim
        | some w =>
          rw [ha] at h
          obtain ⟨dx, u, y1, y2, y3, y4, y5⟩ := e6 w ha
          exact ⟨.ref a, e1, rfl, rfl, dx, _, u, y1, y2, by rw [ef]; simp [List.lookup_cons], h γ u H .refl hr y3⟩
      · exact h.elim
    · exact h.elim
  · refine ⟨fun pins s0 σ H Q I ⟨γ, s, m, hr, sl, h⟩ => ?_⟩
    exfalso
    simp only [evE] at h
    split at h
    · rename_i e hi
      split at h
      · rename_i ef
        obtain ⟨v, e1, a', c', d', e2, rfl, C', e3, e4, e5, e6⟩ := sl.at_ i _ hi
        cases e2
        obtain ⟨k1, k2⟩ := hx e.cls e5 C' e3
        exact ex ⟨C', e4, k1, by rw [ef]; exact k2⟩
      · exact h.elim
    · exact h.elim
end
end DI
end

section
set_option linter.all false
set_option maxRecDepth 100000
set_option maxHeartbeats 1000000
/-! DI.S18: defs and classes. -/
namespace DI
open PySem L2
open PyProof.Rows hiding St
/-- what a def promises where no repr is around -/
structure FnG (P : Program) (w : World) (K : PySem.W.Frag) (mg : Str → Option Value) (base : Heap) (CX : CXT) (k : Nat) (f : Addr) (fd : FuncData) (ps : List Str) (sp : Sp) : Prop where
  len : ∀ vs H Q E, sp vs H Q E → vs.length = ps.length
  run : ∀ (A : Around) (outer : List Env) (s : Shared) (H : Hp) (args : Args) (us : List Value) (vs : List V) (Q : VK) (E : XK), L2.Room k A → A.guards = some [] → Env0 P w K mg base A outer s H → BindsTo s fd args (ps.zip us) → Vals vs us → sp vs H Q E →
    codeAny (model P w) A (.call (.ref f) args) (CR CX outer P w H s Q E) s
theorem fnG_of {CX : CXT} {P : Program} {w : World} {K : PySem.W.Frag} {mg : Str → Option Value} {base : Heap} {k : Nat} {f : Addr} {name qual : Str} {params : Arguments} {body : List Stmt} {scope : Scope} {dV kV doc pm cdv ct oc : Value} {an od : Option Addr}
    {osl : Array (Option Value)} {N ps : List Str} {sp : Sp} (lk : K.lookup f = some ⟨oc, od, .func (PySem.W.fnOf name qual params body scope dV kV doc pm an cdv ct), osl⟩) (hcd : PySem.W.codeIn K cdv qual = true) (S : FnScope N ps scope)
    (len : ∀ vs H Q E, sp vs H Q E → vs.length = ps.length)
    (hbody : ∀ (A : Around) (outer : List Env) (s : Shared) (H : Hp) (vs : List V) (Q : VK) (E : XK), L2.Room k (A.deeper (envOfC qual scope s.heap.objs.size f cdv)) → A.guards = some [] → sp vs H Q E →
      ∃ t, PSs (cxOf CX P w K mg base N qual scope f cdv A outer s H E) body t ∧ t { nx := fun _ H' => Q .non H', rt := Q } (start N vs) H) :
    FnG P w K mg base CX (k + 1) f (PySem.W.fnOf name qual params body scope dV kV doc pm an cdv ct) ps sp := by
  refine ⟨len, fun A outer s H args us vs Q E hr hgd e0 hb r hsp => ?_⟩
  have hl := len _ _ _ _ hsp
  have KX : K.In s.heap := e0.mod.kin.keeps fun b o e => (e0.bs b o e).1
  have lim : s.heap.NoLimit := e0.mod.nolimit.keeps fun b o e => (e0.bs b o e).1
  have hkind : ∀ y ∈ ps.zip us, scope.names.lookup y.1 = some .local ∨ (scope.names.lookup y.1 = some .cell ∧ ((cellsFrom (s.heap.objs.size + 1) scope.names []).lookup y.1).isSome = true) := fun ⟨n, v⟩ hy => by
    rcases S.par n (List.of_mem_zip hy).1 with q | q
    · exact .inl q
    · exact .inr ⟨q, PySem.W.cellsFrom_some _ _ _ (.inl q)⟩
  refine codeAny_call_function hr.depth (KX _ _ lk) rfl S.co S.gen rfl (PySem.W.codeRec_of KX hcd) (hb _ _ _ _ ?_)
  refine wpAny_newFunctionEnv_cells S.kind hkind fun env he s1 x => ?_
  subst he
  refine ⟨lim.keeps x.toInCall.keep, codeAny_func ?_⟩
  obtain ⟨t, ht, hq⟩ := hbody A outer s H vs Q E (hr.deeper _) hgd hsp
  have I : Inv (cxOf CX P w K mg base N qual scope f cdv A outer s H E) [] (start N vs) H s1 := inv_start S hr.hd e0 hl r x
  refine wpAny_mono (ht.run [] s1 (start N vs) H _ I hq) (fun fl s' hs => ?_) fun e s' hs => hs
  have fin : ∀ {σ' : St} {H' : Hp} {v : V} {u : Value}, Inv (cxOf CX P w K mg base N qual scope f cdv A outer s H E) [] σ' H' s' → RelV v u → Q v H' → CE outer P w H s Q u s' :=
    fun {σ' H' v u} J rv q => ⟨v, H', J.os, J.bare, J.base, J.hok, rv, q⟩
  cases fl with
  | ret u =>
    obtain ⟨v, σ', H', J, rv, q⟩ := hs
    exact fin J rv q
  | next =>
    obtain ⟨σ', H', J, q⟩ := hs
    exact fin (v := V.non) (u := Value.none) J rfl q
  | brk =>
    obtain ⟨_, _, _, q⟩ := hs
    exact False.elim q
  | cont =>
    obtain ⟨_, _, _, q⟩ := hs
    exact False.elim q

theorem FunD.okG {P : Program} {w : World} {K : PySem.W.Frag} {mg : Str → Option Value} {base : Heap} {x qual : Str} {params : Arguments} {body : List Stmt} {scope : Scope} {dvs : List V} {kws : List (Str × V)} {f : Addr} {fd : FuncData} {CX : CXT} {N ps : List Str} {k : Nat} {sp : Sp} (F : FunD K x qual params body scope dvs kws f fd) (S : FnScope N ps scope) (len : ∀ vs H Q E, sp vs H Q E → vs.length = ps.length)
    (hbody : ∀ (cdv : Value) (A : Around) (outer : List Env) (s : Shared) (H : Hp) (vs : List V) (Q : VK) (E : XK), L2.Room k (A.deeper (envOfC qual scope s.heap.objs.size f cdv)) → A.guards = some [] → sp vs H Q E →
      ∃ t, PSs (cxOf CX P w K mg base N qual scope f cdv A outer s H E) body t ∧ t { nx := fun _ H' => Q .non H', rt := Q } (start N vs) H) : FnG P w K mg base CX (k + 1) f fd ps sp := by
  obtain ⟨oc, od, dV, kV, doc, pm, an, cdv, ct, osl, rfl, lk, hcd, _, _⟩ := F.ex
  exact fnG_of lk hcd S len fun A outer s H vs Q E hr hg hsp => hbody cdv A outer s H vs Q E hr hg hsp
/-- the context of a body -/
structure CxOk (P : Program) (w : World) (K : PySem.W.Frag) (mg : Str → Option Value) (base : Heap) (N : List Str) (sc : Scope) (lv : Nat) (cm : Bool) (X : Cx) (W : WX) : Prop where
  e1 : X.prog = P
  e2 : X.w = w
  e3 : X.K = K
  e4 : X.mg = mg
  e5 : X.base = base
  e6 : X.N = N
  e7 : X.env.scope = sc
  nd : N.Nodup
  fn : ∀ x, X.fn x = true
  calm : cm = true → X.calm = true
  room : cm = true → Room (lv + 9) X.A
  takes : Takes X W
  gq : X.A.guards = some [] ∧ X.A.units + 12 < cLine
  own : PassesOwn (model X.prog X.w) X.A X.env X.xe
  stk : cm = true → X.stack = X.env :: X.outer
  fr : cm = true → X.env.frame = some X.env.locals
/-- the promise of a body -/
def bodySp (mg : Str → Option Value) (g : G) (N : List Str) (n : Nat) (body : List S) : Sp := fun vs H Q E => vs.length = n ∧ ∃ γ0 H0 γ s m, StR mg none γ0 H0 γ H (start N vs) s m ∧ PoS mg none γ0 H0 (fun cls d _ H' => E cls d H') { nx := fun _ H' => Q .non H', rt := Q } (evSs g body s m)
section
variable {P : Program} {w : World} {K : PySem.W.Frag} {mg : Str → Option Value} {base : Heap} {lv : Nat} {g : G}
theorem fnOk_body {x qual : Str} {params : Arguments} {stmts : List Stmt} {scope : Scope} {dvs : List V} {kws : List (Str × V)} {f : Addr} {fd : FuncData} {N ps : List Str} {body : List S} (F : FunD K x qual params stmts scope dvs kws f fd) (S : FnScope N ps scope)
    (hb : ∀ X W, CxOk P w K mg base N scope lv true X W → PSs X stmts (TSS g mg W none body)) : FnG P w K mg base (L2.CX P w) (lv + 10) f fd ps (bodySp mg g N ps.length body) :=
  FunD.okG F S (fun vs H Q E h => h.1) fun cdv A outer s H vs Q E hr hgd h => by
    obtain ⟨hl, h⟩ := h
    exact ⟨TSS g mg (fun cls d _ H' => E cls d H') none body, hb _ _ ⟨rfl, rfl, rfl, rfl, rfl, rfl, rfl, S.nd, fun _ => rfl, fun _ => rfl, fun _ => ⟨hr, hgd⟩, takes_of rfl rfl rfl rfl, ⟨hgd, by have := hr.un; show (A.deeper (envOfC qual scope s.heap.objs.size f cdv)).units + 12 < cLine; omega⟩, passes_of rfl, fun _ => rfl, fun _ => rfl⟩, h⟩
theorem slR_start {γ : Gh} {H : Hp} {vs : List V} {ds : List D} (N : List Str) (r : RVs γ vs ds) : SlR mg none γ H (start N vs) (ds.map (fun d => some (.sh d)) ++ List.replicate (N.length - ds.length) none) := by
  have key : ∀ {vs : List V} {ds : List D} (k : Nat), RVs γ vs ds → ∀ (i : Nat) (sv : SV), (ds.map (fun d => some (SV.sh d)) ++ List.replicate k none)[i]? = some (some sv) → ∃ (v : V) (d : D), (vs.map some ++ List.replicate k none)[i]? = some (some v) ∧ sv = SV.sh d ∧ RV γ v d := fun k r => by
    induction r with
    | nil =>
      intro i sv h
      simp [List.getElem?_replicate] at h
    | @cons v d vs ds r t ih =>
      intro i sv h
      cases i with
      | zero =>
        simp at h
        subst h
        exact ⟨v, d, rfl, rfl, r⟩
      | succ i => exact ih i sv (by simpa using h)
  refine ⟨by simp [L2.start, r.length], fun i sv h => ?_, fun i j c c' a h1 h2 h3 h4 => ?_⟩
  · rw [L2.start, r.length]
    obtain ⟨v, d, e1, rfl, r'⟩ := key _ r i sv h
    exact ⟨v, e1, r'⟩
  · obtain ⟨v, d, e1, z, r'⟩ := key _ r i _ h1
    cases z
theorem noOw {ds : List D} {k i : Nat} {c : MC} (h : (ds.map (fun d => some (SV.sh d)) ++ List.replicate k none)[i]? = some (some (.ow c))) : False := by
  induction ds generalizing i with
  | nil => simp [List.getElem?_replicate] at h
  | cons d ds ih =>
    cases i with
    | zero => simp at h
    | succ i => exact ih (i := i) (by simpa using h)
theorem guards_make {A : Around} {C : Addr} {us : List Value} {kw : List (Str × Value)} (h : A.guards = some []) : (A.under (.builtin "type.__call__" ⟨.ref C :: us, kw⟩)).guards = some [] := by
  first | exact h | (simp [Around.under, Code.isGuard, guardIds, h]; done)
/-- from a def to what a call says -/
theorem RunSh.of_body {fa : Addr} {fd : FuncData} {N ps ks : List Str} {n : Nat} {body : List S} {gU : List Value → List Value → List Value} {gV : List V → List V → List V} {gD : List D → List D} (F : FnG P w K mg base (L2.CX P w) lv fa fd ps (bodySp mg g N ps.length body))
    (hb : KBn K fd ps n ks gU gV) (hg : ∀ γ vs zs ds, vs.length = n → zs.length = ks.length → RVs γ (vs ++ zs) ds → RVs γ (gV vs zs) (gD ds)) : RunSh P w K mg base lv (.ref fa) n ks (fun ds m => evF g ⟨N.length, ps.length, body⟩ (gD ds) m) := by
  intro X hP hw hK hmg hba A sb pins s σ H us ws vs zs Q E γ ds m I hx hn hz r1 r2 hr rv hp
  subst hP hw hK hmg hba
  have b := hb.to s us ws I.kIn (by rw [← r1.length]; exact hn) (by rw [← r2.length]; exact hz)
  have rr := hb.rel r1 r2
  have rd := hg γ vs zs ds hn hz rv
  have e0 : Env0 X.prog X.w X.K X.mg X.base A X.stack s H := by
    have e := I.env0
    exact ⟨by rw [sb.fr]; exact e.frames, e.mod, e.bs, e.bsz, e.funs, e.frf, e.hok, e.bare⟩
  have sp : bodySp X.mg g N ps.length body (gV vs zs) H Q E := by
    simp only [evF] at hp
    split at hp
    · rename_i hl
      refine ⟨by rw [rd.length]; exact hl, γ, H, γ, _, m, ⟨.refl, hr, slR_start N rd, fun i c a h _ => (noOw h).elim⟩, ?_⟩
      rw [hl]
      cases q : evSs g body (List.map (fun d => some (SV.sh d)) (gD ds) ++ List.replicate (N.length - ps.length) none) m with
      | ret d m' => rw [q] at hp; exact fun γ' v H' gr hr rv => hp γ' v H' gr hr rv
      | nx s' m' => rw [q] at hp; exact fun γ' σ' H' st => hp γ' .non H' st.gr st.hr rfl
      | exc e s' m' => rw [q] at hp; exact fun γ' σ' H' c d st ex => hp γ' H' c d st.gr st.hr ex
      | brk s' m' => rw [q] at hp; exact hp.elim
      | ct s' m' => rw [q] at hp; exact hp.elim
      | stuck => rw [q] at hp; exact hp.elim
    · exact hp.elim
  refine wpAny_call (codeAny_mono (F.run A X.stack s H ⟨us, ks.zip ws⟩ (gU us ws) (gV vs zs) Q E sb.room.toRoom sb.room.gd e0 b rr sp) fun r s' hq => ?_)
  cases r with
  | error e => exact hx pins H s e s' I hq
  | ok fl =>
    cases fl with
    | ret u => exact I.after hq
    | next => exact False.elim hq
    | brk => exact False.elim hq
    | cont => exact False.elim hq
/-- from a class to what a call says: instances that never change -/
theorem RunSh.of_class {C fa : Addr} {c : Nat} {fd : FuncData} {N ps ks : List Str} {n : Nat} {body : List S} {gU : List Value → List Value → List Value} {gV : List V → List V → List V} {gW : List V → List V → List V} {gD : List D → List D} (M : Mk K C fa) (hC : mg (clsName c) = some (.ref C))
    (F : FnG P w K mg base (L2.CX P w) lv fa fd ps (bodySp mg g N ps.length body))
    (hb : KBn K fd ps (n + 1) ks gU gV) (hgw : ∀ v vs zs, gV (v :: vs) zs = v :: gW vs zs) (hg : ∀ γ vs zs ds, vs.length = n → zs.length = ks.length → RVs γ (vs ++ zs) ds → RVs γ (gW vs zs) (gD ds)) : RunSh P w K mg base (lv + 1) (.ref C) n ks (fun ds m => evC0 g c ⟨N.length, ps.length, body⟩ (gD ds) m) := by
  intro X hP hw hK hmg hba A sb pins s σ H us ws vs zs Q E γ ds m I hx hn hz r1 r2 hr rv hp
  subst hP hw hK hmg hba
  have rd := hg γ vs zs ds hn hz rv
  have I2 := Inv.made (C := C) I
  have r1' : Vals (V.ref (s.heap.objs.size + 1) :: vs) (Value.ref (s.heap.objs.size + 1) :: us) := .cons rfl r1
  have b := hb.to _ (Value.ref (s.heap.objs.size + 1) :: us) ws I2.kIn (by rw [← r1'.length, List.length_cons, hn]) (by rw [← r2.length]; exact hz)
  have rr := hb.rel r1' r2
  rw [hgw] at rr
  have e0 := I2.env0
  have e0 : Env0 X.prog X.w X.K X.mg X.base A X.stack { s with heap := (s.heap.push PySem.W.emptyDict).push (PySem.W.instObj C s.heap.objs.size) } (upd (upd H s.heap.objs.size (.own (s.heap.objs.size + 1))) (s.heap.objs.size + 1) (.ins C s.heap.objs.size [])) := by
    have e := I2.env0
    exact ⟨by rw [sb.fr]; exact e.frames, e.mod, e.bs, e.bsz, e.funs, e.frf, e.hok, e.bare⟩
  have hx0 : H (s.heap.objs.size + 1) = none := I.hok.fresh (Nat.le_succ _)
  have hd0 : H s.heap.objs.size = none := I.hok.fresh (Nat.le_refl _)
  have hne : s.heap.objs.size + 1 ≠ s.heap.objs.size := Nat.succ_ne_self _
  have o1 := hr.obs (o := .own (s.heap.objs.size + 1)) hd0
  have o2 := o1.1.obs (p := s.heap.objs.size + 1) (o := .ins C s.heap.objs.size []) (by rw [upd_ne hne]; exact hx0)
  have gr2 := o1.2.trans o2.2
  have sp : bodySp X.mg g N ps.length body (V.ref (s.heap.objs.size + 1) :: gW vs zs) (upd (upd H s.heap.objs.size (.own (s.heap.objs.size + 1))) (s.heap.objs.size + 1) (.ins C s.heap.objs.size [])) (fun v H2 => v = .non ∧ Q (.ref (s.heap.objs.size + 1)) H2) E := by
    simp only [evC0] at hp
    split at hp
    · rename_i hl
      have sl0 := slR_start (mg := X.mg) (H := upd (upd H s.heap.objs.size (.own (s.heap.objs.size + 1))) (s.heap.objs.size + 1) (.ins C s.heap.objs.size [])) N.tail rd
      have eN : N.tail.length - (gD ds).length = N.length - ps.length := by rw [List.length_tail]; omega
      have eS : start N (V.ref (s.heap.objs.size + 1) :: gW vs zs) = some (V.ref (s.heap.objs.size + 1)) :: start N.tail (gW vs zs) := by
        unfold L2.start
        rw [List.map_cons, List.cons_append, List.length_cons, List.length_tail]
        congr 2
        congr 1
        omega
      rw [eN] at sl0
      refine ⟨by rw [List.length_cons, rd.length]; exact hl, ⟨γ.as, γ.F, γ.Z, s.heap.objs.size + 1⟩, H, γ, some (.ow (.ins c [])) :: (List.map (fun d => some (SV.sh d)) (gD ds) ++ List.replicate (N.length - ps.length) none), m, ⟨⟨gr2.as, gr2.F, gr2.Fn, gr2.fr, gr2.th, gr2.Z⟩, o2.1, ⟨?_, fun i sv h => ?_, fun i j c1 c2 a h1 h2 h3 h4 => ?_⟩, fun i c1 a h1 h2 => ?_⟩, ?_⟩
      · rw [eS, List.length_cons, List.length_cons, sl0.len]
      · rw [eS]
        cases i with
        | zero =>
          simp at h
          subst h
          exact ⟨_, rfl, _, rfl, ⟨C, _, [], upd_same, hC, .nil⟩, hr.noAs hx0, hr.noF hx0⟩
        | succ i => exact sl0.at_ i sv (by simpa using h)
      · cases i with
        | zero =>
          cases j with
          | zero => rfl
          | succ j => exact (noOw (i := j) (by simpa using h2)).elim
        | succ i => exact (noOw (i := i) (by simpa using h1)).elim
      · cases i with
        | zero =>
          rw [eS] at h2
          simp at h2
          subst h2
          exact ⟨hx0, fun _ _ _ => rfl⟩
        | succ i => exact (noOw (i := i) (by simpa using h1)).elim
      · rw [show some (SV.ow (MC.ins c [])) :: List.map (fun d => some (SV.sh d)) (gD ds) ++ List.replicate (N.length - ps.length) none = some (SV.ow (MC.ins c [])) :: (List.map (fun d => some (SV.sh d)) (gD ds) ++ List.replicate (N.length - ps.length) none) from rfl] at hp
        cases q : evSs g body (some (.ow (.ins c [])) :: (List.map (fun d => some (SV.sh d)) (gD ds) ++ List.replicate (N.length - ps.length) none)) m with
        | ret d m' => rw [q] at hp; exact hp.elim
        | nx s' m' =>
          rw [q] at hp
          refine fun γ' σ' H' st => ⟨rfl, ?_⟩
          simp only at hp
          split at hp
          · rename_i c2 fs rest
            obtain ⟨v, e1, a, rfl, ⟨C', dx, fw, k1, k2, k3⟩, n1, n2⟩ := st.sl.at_ 0 _ rfl
            obtain ⟨h0, hme⟩ := st.own 0 _ a rfl e1
            have ea : a = s.heap.objs.size + 1 := hme _ _ rfl
            subst ea
            have hk := Grow.know (d := .obj c2 fs) (o := .ins C' dx fw) (⟨st.gr.as, st.gr.F, st.gr.Fn, st.gr.fr, st.gr.th, st.gr.Z⟩ : Grow γ H γ' H') st.hr n2 h0
            have hrv := RV.know (d := .obj c2 fs) (o := .ins C' dx fw) n2
            exact hp _ _ H' hk (st.hr.know n1 n2 k1 ⟨C', dx, fw, k1, k2, Paired.mapP k3 fun _ _ x => ⟨x.1, hrv _ _ x.2⟩⟩ hrv) ⟨_, rfl, Gh.add_same⟩
          · exact hp.elim
        | exc e s' m' => rw [q] at hp; exact fun γ' σ' H' c d st ex => hp γ' H' c d ⟨st.gr.as, st.gr.F, st.gr.Fn, st.gr.fr, st.gr.th, st.gr.Z⟩ st.hr ex
        | brk s' m' => rw [q] at hp; exact hp.elim
        | ct s' m' => rw [q] at hp; exact hp.elim
        | stuck => rw [q] at hp; exact hp.elim
    · exact hp.elim
  refine wpAny_call (make_map (f := fa) I.kIn M.makes M.init (beq_iff_eq.mp M.fn) (codeAny_mono (F.run _ X.stack _ _ ⟨Value.ref (s.heap.objs.size + 1) :: us, ks.zip ws⟩ (gU (Value.ref (s.heap.objs.size + 1) :: us) ws) _ _ E (sb.room.toRoom.make C us (ks.zip ws)) (guards_make sb.room.gd)
    (e0.make C us (ks.zip ws)) b rr sp) fun r s' hq' => ?_))
  cases r with
  | error e => exact hx pins _ _ e s' I2 hq'
  | ok fl =>
    cases fl with
    | ret u =>
      obtain ⟨v, H', I3, rv, ev, q3⟩ := I2.after hq'
      subst ev
      exact ⟨rv, ⟨V.ref (s.heap.objs.size + 1), H', I3, rfl, q3⟩⟩
    | next => exact False.elim hq'
    | brk => exact False.elim hq'
    | cont => exact False.elim hq'
end
end DI
end

section
set_option linter.all false
set_option maxRecDepth 100000
set_option maxHeartbeats 1000000
/-! DI.S19: comprehensions. -/
namespace DI
open PySem L2
open PyProof.Rows hiding St
section
variable {mg : Str → Option Value} {xi : XI} {γ γ' : Gh} {H H' : Hp} {σ : L2.St} {s : Sl} {m : MS}
theorem wipe_get {σ : L2.St} {i : Nat} : ∀ {vs : List Nat}, i ∉ vs → (wipe σ vs)[i]? = σ[i]?
  | [], _ => rfl
  | v :: vs, h => by
    rw [List.mem_cons, not_or] at h
    unfold wipe
    rw [List.getElem?_set_ne (Ne.symm h.1)]
    exact wipe_get h.2
theorem wipe_in {σ : L2.St} {i : Nat} (hl : i < σ.length) : ∀ {vs : List Nat}, i ∈ vs → (wipe σ vs)[i]? = some none
  | v :: vs, h => by
    unfold wipe
    by_cases e : i = v
    · subst e
      rw [List.getElem?_set_self (by rw [wipe_length]; exact hl)]
    · rw [List.getElem?_set_ne (Ne.symm e)]
      rcases List.mem_cons.mp h with z | z
      · exact absurd z e
      · exact wipe_in hl z
theorem wipeS_get {s : Sl} {i : Nat} {x : SV} : ∀ {vs : List Nat}, (wipeS s vs)[i]? = some (some x) → s[i]? = some (some x) ∧ i ∉ vs
  | [], h => ⟨h, by simp⟩
  | v :: vs, h => by
    unfold wipeS at h
    by_cases e : i = v
    · subst e
      rw [List.getElem?_set_self (by have := (List.getElem?_eq_some_iff.mp h).1; simpa using this)] at h
      cases h
    · rw [List.getElem?_set_ne (Ne.symm e)] at h
      obtain ⟨h1, h2⟩ := wipeS_get h
      exact ⟨h1, by rw [List.mem_cons, not_or]; exact ⟨e, h2⟩⟩
theorem wipeS_length (s : Sl) : ∀ vs : List Nat, (wipeS s vs).length = s.length
  | [] => rfl
  | v :: vs => by unfold wipeS; rw [List.length_set, wipeS_length s vs]
theorem SlR.wipe (sl : SlR mg xi γ H σ s) (vs : List Nat) : SlR mg xi γ H (wipe σ vs) (wipeS s vs) := by
  refine ⟨by rw [wipe_length, wipeS_length, sl.len], fun i x h => ?_, fun i j c c' a h1 h2 h3 h4 => ?_⟩
  · obtain ⟨h1, h2⟩ := wipeS_get h
    obtain ⟨v, e, r⟩ := sl.at_ i x h1
    exact ⟨v, by rw [wipe_get h2]; exact e, r⟩
  · obtain ⟨k1, n1⟩ := wipeS_get h1
    obtain ⟨k2, n2⟩ := wipeS_get h2
    rw [wipe_get n1] at h3
    rw [wipe_get n2] at h4
    exact sl.ap i j c c' a k1 k2 h3 h4
theorem wipe_same {σ σ' : L2.St} {vs : List Nat} (hl : σ'.length = (wipe σ vs).length) (ho : ∀ i, i ∉ vs → σ'[i]? = (wipe σ vs)[i]?) : wipe σ' vs = wipe σ vs := by
  have hl' : σ'.length = σ.length := by rw [hl, wipe_length]
  apply List.ext_getElem?
  intro i
  by_cases h : i ∈ vs
  · by_cases hi : i < σ.length
    · rw [wipe_in hi h, wipe_in (by rw [hl']; exact hi) h]
    · rw [List.getElem?_eq_none (by rw [wipe_length]; omega), List.getElem?_eq_none (by rw [wipe_length]; omega)]
  · rw [wipe_get h, ho i h]
theorem Grow.own (g : Grow γ H γ' H') {a : Addr} {o : HO} (h0 : H a = none) : Grow γ H γ' (upd H' a o) :=
  ⟨g.as, g.F, g.Fn, fun b u q hn => by rw [upd_ne (fun z => by rw [z, h0] at q; cases q)]; exact g.fr b u q hn, fun b u q => by
    obtain ⟨u', q'⟩ := g.th b u q
    exact ⟨u', by rw [upd_ne (fun z => by rw [z, h0] at q; cases q)]; exact q'⟩, g.Z⟩
theorem compL_cons (f : D → MS → Res (Option D)) (x : D) (xs : List D) (m : MS) : compL f (x :: xs) m = (noX (f x m)).bind fun o m => (compL f xs m).bind fun r m => .ok (match o with | some y => y :: r | none => r) m := rfl
end
/-- the tests of a comprehension -/
def TCs (g : G) (mg : Str → Option Value) (W : WX) (xi : XI) (cs : List E) : TT := fun σ H Q => ∃ γ s m, HR mg γ m H ∧ SlR mg xi γ H σ s ∧ Post (fun _ (b c : Bool) => b = c) mg (fun c d H' => W c d σ H') γ H (evC g cs s m) Q
section
variable {X : Cx} {g : G} {W : WX} {xi : XI} {lv : Nat} {a b c e : Expr} {ia ib ic ie : E} {p : Pos}
theorem PTs.by {X : Cx} {e : List Expr} {t t' : TT} (h : PTs X e t') (k : ∀ σ H Q, t σ H Q → t' σ H Q) : PTs X e t := ⟨fun pins s σ H Q I q => h.run pins s σ H Q I (k σ H Q q)⟩
theorem c_nil : PTs X [] (TCs g X.mg W xi []) := PTs.by pts_nil fun σ H Q ⟨γ, s, m, hr, sl, h⟩ => h γ true H .refl hr rfl
theorem c_one (hc : PT X c (TB g X.mg W xi ic)) : PTs X [c] (TCs g X.mg W xi [ic]) := PTs.by (pts_one hc) fun σ H Q ⟨γ, s, m, hr, sl, h⟩ => by
  simp only [evC] at h
  refine TB.go (R := fun _ (b c : Bool) => b = c) hr sl (fun d m hd => ?_) h fun γ1 m1 b H1 g1 hr1 sl1 h1 => ?_
  · cases d <;> first | rfl | exact absurd rfl (hd _)
  · cases b with
    | true => exact h1 γ1 true H1 .refl hr1 rfl
    | false => exact h1 γ1 false H1 .refl hr1 rfl
/-- what a list comprehension says -/
theorem lc_read {it : It} {t : T} {cs : List E} {elt : E} {σ : L2.St} {H : Hp} {Q : VK} (h : TX g X.mg W xi (.lcomp elt t it cs) σ H Q) : tLc (TIt g X.mg W xi it) (gT X.mg xi t) (TCs g X.mg WF xi cs) (TX g X.mg WF xi elt) t.slots σ H Q := by
  obtain ⟨γ, s, m, hr, sl, h⟩ := h
  simp only [evE] at h
  refine ⟨γ, s, m, hr, sl, (Post.bind (R := Yl X.mg) h).imp fun J H1 ⟨γ1, m1, xs, g1, hr1, yl, h1⟩ => ?_⟩
  split at h1
  case isFalse => exact h1.elim
  rename_i hlen
  generalize hf : (fun (d : D) (m : MS) => match asgT t d (wipeS s t.slots) with
      | some σ => (evC g cs σ m).bind fun b m => if b then (evE g elt σ m).bind fun y m => .ok (some y) m else .ok none m
      | none => (.stuck : Res (Option D))) = f at h1
  intro L hL
  have sl1 := sl.grow g1
  refine ⟨fun i k H' => k = xs.length - i ∧ i ≤ xs.length ∧ ∃ γ' m' acc ys, Grow γ1 H1 γ' H' ∧ HR X.mg γ' m' H' ∧ H' L = some (.lst acc) ∧ L ∉ γ'.as ∧ γ'.F L = none ∧ RVs γ' acc ys ∧ acc.length ≤ i ∧
      Post RV X.mg (fun c d H' => W c d σ H') γ1 H1 ((compL f (xs.drop i) m').bind fun zs m => .ok (.lst (ys ++ zs)) m) Q, ⟨xs.length, by simp, Nat.zero_le _, γ1, m1, [], [], Grow.refl.own hL, hr1.own (hr1.noAs hL) (hr1.noF hL), upd_same, hr1.noAs hL, hr1.noF hL, .nil, Nat.le_refl _, h1⟩, ?_⟩
  rintro i k H2 ⟨rfl, hi, γ2, m2, acc, ys, g2, hr2, hD, n1, n2, ra, hal, h2⟩
  obtain ⟨y1, y2⟩ := yl γ2 H2 m2 g2.F g2.Z hr2 i
  by_cases hlt : i < xs.length
  · have hx : xs[i]? = some xs[i] := List.getElem?_eq_getElem hlt
    obtain ⟨hgo, hy⟩ := y1 _ hx
    refine .inr ⟨hgo, fun H3 => ∃ γ' m' acc ys, Grow γ1 H1 γ' H3 ∧ HR X.mg γ' m' H3 ∧ H3 L = some (.lst acc) ∧ L ∉ γ'.as ∧ γ'.F L = none ∧ RVs γ' acc ys ∧ acc.length ≤ i + 1 ∧
      Post RV X.mg (fun c d H' => W c d σ H') γ1 H1 ((compL f (xs.drop (i + 1)) m').bind fun zs m => .ok (.lst (ys ++ zs)) m) Q, fun H3 z => ⟨xs.length - (i + 1), by omega, rfl, hlt, z⟩, fun x H3 yy => ?_⟩
    obtain ⟨γ3, g3, hr3, r3⟩ := hy x H3 yy
    rw [List.drop_eq_getElem_cons hlt, compL_cons] at h2
    have hD3 := g3.fr _ _ hD n1
    have n13 := g3.nas hD n1
    have n23 := g3.nF hD n2
    have g13 := g2.trans g3
    rw [← hf] at h2
    simp only at h2
    rw [hf] at h2
    cases ha : asgT t xs[i] (wipeS s t.slots) with
    | none => rw [ha] at h2; exact h2.elim
    | some s2 =>
      rw [ha] at h2
      refine ⟨γ3, xs[i], wipeS s t.slots, s2, m2, hr3, (sl1.grow g13).wipe t.slots, r3, ha, fun σ2 sl2 u2 => ⟨wipe_same u2.len u2.out, γ3, s2, m2, hr3, sl2, ?_⟩⟩
      simp only at h2
      cases q : evC g cs s2 m2 with
      | exc _ _ => rw [q] at h2; exact h2.elim
      | stuck => rw [q] at h2; exact h2.elim
      | ok b m3 =>
        rw [q] at h2
        refine fun γ4 b' H4 g4 hr4 hb => ?_
        have hb' : b' = b := hb
        rw [hb']
        have hD4 := g4.fr _ _ hD3 n13
        have n14 := g4.nas hD3 n13
        have n24 := g4.nF hD3 n23
        have g14 := g13.trans g4
        cases b with
        | false =>
          simp only [Res.bind, Bool.false_eq_true, if_false, noX] at h2 ⊢
          refine ⟨γ4, m3, acc, ys, g14, hr4, hD4, n14, n24, (ra.mono g3).mono g4, by omega, ?_⟩
          cases q2 : compL f (xs.drop (i + 1)) m3 with
          | ok zs m4 => rw [q2] at h2; exact h2
          | exc _ _ => rw [q2] at h2; exact h2
          | stuck => rw [q2] at h2; exact h2
        | true =>
          simp only [Res.bind, if_true] at h2 ⊢
          refine ⟨γ4, s2, m3, hr4, sl2.grow g4, ?_⟩
          cases q2 : evE g elt s2 m3 with
          | exc _ _ => rw [q2] at h2; exact h2.elim
          | stuck => rw [q2] at h2; exact h2.elim
          | ok y m4 =>
            rw [q2] at h2
            refine fun γ5 v H5 g5 hr5 r5 => ?_
            have hD5 := g5.fr _ _ hD4 n14
            have n15 := g5.nas hD4 n14
            have n25 := g5.nF hD4 n24
            have g15 := g14.trans g5
            refine ⟨acc, hD5, by rw [sizeLine_eq]; unfold maxLen at hlen; omega, γ5, m4, acc ++ [v], ys ++ [y], g15.own hL, hr5.own n15 n25, upd_same, n15, n25, (((ra.mono g3).mono g4).mono g5).append (.cons r5 .nil), by rw [List.length_append]; simp; omega, ?_⟩
            simp only [Res.bind, noX] at h2
            cases q3 : compL f (xs.drop (i + 1)) m4 with
            | ok zs m5 => rw [q3] at h2; simp only [Res.bind] at h2 ⊢; rw [List.append_assoc]; exact h2
            | exc _ _ => rw [q3] at h2; exact h2
            | stuck => rw [q3] at h2; exact h2
  · have e : i = xs.length := by omega
    subst e
    rw [List.drop_length] at h2
    simp only [compL, Res.bind, List.append_nil] at h2
    have hrv := RV.know (d := .lst ys) (o := .lst acc) n2
    exact .inl ⟨y2 (Nat.le_refl _), h2 _ _ H2 (g2.know (d := .lst ys) (o := .lst acc) hr2 n2 hL) (hr2.know (d := .lst ys) (o := .lst acc) n1 n2 hD ⟨acc, .inl hD, Paired.mapP ra hrv⟩ hrv) ⟨L, rfl, Gh.add_same⟩⟩
theorem n_lc {tg iter elt : Expr} {ifs : List Expr} {scope : Scope} {own : List (Str × Nat)} {it : It} {t : T} {cs : List E} {ielt : E} (hc : X.calm = true) (hN : X.N.Nodup) (hi : PI X tg iter (TIt g X.mg W xi it)) (ok : BlkOk X.N X.env.scope scope own) (hsl : own.map (·.2) = t.slots)
    (hg : ∀ (s : Shared) (H : Hp) (C : Addr) (cl : List (Str × Addr)) (fp : List Addr), PG (X.blk s H scope (compEnvC scope cl C X.env) fp) tg (gT X.mg xi t)) (ht : ∀ (s : Shared) (H : Hp) (C : Addr) (cl : List (Str × Addr)) (fp : List Addr), PTs (X.blk s H scope (compEnvC scope cl C X.env) fp) ifs (TCs g X.mg WF xi cs))
    (he : ∀ (s : Shared) (H : Hp) (C : Addr) (cl : List (Str × Addr)) (fp : List Addr), PE (X.blk s H scope (compEnvC scope cl C X.env) fp) elt (TX g X.mg WF xi ielt)) (hs : ∀ x, foldedSetIterable iter X.env x = pure x) :
    PE X (.ListComp elt [⟨tg, iter, ifs, 0⟩] scope p) (TX g X.mg W xi (.lcomp ielt t it cs)) := PE.by (pe_lc hc hN hi ok hg ht he hs) fun σ H Q h => by rw [hsl]; exact lc_read h
theorem s_setLc {i : Nat} {y : Str} {py : Pos} {tg iter elt : Expr} {ifs : List Expr} {scope : Scope} {own : List (Str × Nat)} {it : It} {t : T} {cs : List E} {ielt : E} {spos : Pos} (hc : X.calm = true) (hN : X.N.Nodup) (hy : X.N[i]? = some y) (hyl : X.env.scope.names.lookup y = some .local)
    (hsw : swapsWith (.ListComp elt [⟨tg, iter, ifs, 0⟩] scope p) (some (.Name y py)) spos.line X.env = pure true) (hi : PI X tg iter (TIt g X.mg W xi it)) (ok : BlkOk X.N X.env.scope scope own) (hsl : own.map (·.2) = t.slots)
    (hg : ∀ (s : Shared) (H : Hp) (C : Addr) (cl : List (Str × Addr)) (fp : List Addr), PG (X.blk s H scope (compEnvC scope cl C X.env) fp) tg (gT X.mg xi t)) (ht : ∀ (s : Shared) (H : Hp) (C : Addr) (cl : List (Str × Addr)) (fp : List Addr), PTs (X.blk s H scope (compEnvC scope cl C X.env) fp) ifs (TCs g X.mg WF xi cs))
    (he : ∀ (s : Shared) (H : Hp) (C : Addr) (cl : List (Str × Addr)) (fp : List Addr), PE (X.blk s H scope (compEnvC scope cl C X.env) fp) elt (TX g X.mg WF xi ielt)) (hs : ∀ x, foldedSetIterable iter X.env x = pure x) :
    PS X (.Assign [.Name y py] (.ListComp elt [⟨tg, iter, ifs, 0⟩] scope p) spos) (TS1 g X.mg W xi (.asg (.var i) (.lcomp ielt t it cs))) := PS.by (ps_setLc hc hN hy hyl hsw hi ok hg ht he hs) fun D σ H ⟨γ0, H0, γ, s, m, st, h⟩ => by
  rw [hsl]
  refine lc_read (TX.st st h fun γ1 m1 d v H1 st1 rv h1 => ?_)
  simp only [asgT, nxO] at h1
  exact h1 γ1 _ H1 (st1.put rv)
end
end DI
end

section
set_option linter.all false
set_option maxRecDepth 100000
set_option maxHeartbeats 1000000
/-! DI.S20: further nodes; the checker of texts against the IR. -/
namespace DI
open PySem L2
open PyProof.Rows hiding St
section
variable {X : Cx} {g : G} {W : WX} {xi : XI} {lv : Nat} {a b c e : Expr} {ia ib ic ie : E} {p : Pos}
theorem PT.of_w {t : TT} (h : PW X e t) : PT X e t := ⟨fun pins s σ H Q I q => h.run _ pins s σ H Q I q⟩
theorem pe_chainS {op op' : CmpOp} {r r' : L2.St → V → V → Hp → VK → Prop} {ta tb tc : TE} (ho : OpS X (compareOp op) r) (ho' : OpS X (compareOp op') r') (ha : PE X a ta) (hb : PE X b tb) (hc : PE X c tc) (hm : lastMarks [op, op'] [b, c] = false) :
    PE X (.Compare a [op, op'] [b, c] p) (fun σ H Q => ta σ H fun x H1 => tb σ H1 fun y H2 => r σ x y H2 fun z H3 => ∃ k, z = .bl k ∧ (if k = true then tc σ H3 fun w' H4 => r' σ y w' H4 Q else Q (.bl false) H3)) := by
  refine ⟨fun pins s σ H Q I h => ?_⟩
  refine Compare_chain (thn (ha.run pins s σ H _ I h) fun v s1 ⟨x, H1, I1, r1, q1⟩ => chain_link (thn (hb.run pins s1 σ H1 _ I1 q1) fun u s2 ⟨y, H2, I2, r2, q2⟩ =>
    thn (ho pins s2 σ H2 x y v u _ I2 r1 r2 q2) fun d s3 ⟨z, H3, I3, r3, k, e, q3⟩ => ?_)) hm
  subst e
  cases r3
  refine wpAny_truthy_bool ?_
  cases k with
  | false => exact ite_ff ⟨.bl false, H3, I3, rfl, q3⟩
  | true => exact ite_tt (chain_last (thn (hc.run pins s3 σ H3 _ I3 q3) fun w' s4 ⟨z', H4, I4, r4, q4⟩ => ho' pins s4 σ H4 y z' u w' Q I4 r2 r4 q4))
theorem n_cmp2 (o : Ok0 g lv X.prog X.w X.K X.mg X.base) (hroom : Room (lv + 8) X.A) (tk : Takes X W) {op op' : Cop} (ha : PE X a (TX g X.mg W xi ia)) (hb : PE X b (TX g X.mg W xi ib)) (hc : PE X c (TX g X.mg W xi ic)) (hm : lastMarks [copOf op, copOf op'] [b, c] = false) :
    PE X (.Compare a [copOf op, copOf op'] [b, c] p) (TX g X.mg W xi (.cmp2 op op' ia ib ic)) := PE.by (pe_chainS (op_cmp o hroom tk op) (op_cmp o hroom tk op') ha hb hc hm) fun σ H Q ⟨γ, s, m, hr, sl, h⟩ => by
  simp only [evE] at h
  refine TX.go hr sl h fun γ1 m1 d v H1 g1 hr1 sl1 rv h1 => ?_
  refine TX.go hr1 sl1 h1 fun γ2 m2 e w H2 g2 hr2 sl2 rw' h2 => ?_
  refine ⟨γ2, d, e, m2, hr2, rv.mono g2, rw', (Post.bind (R := RV) h2).imp fun z H3 ⟨γ3, m3, r, g3, hr3, r3, h3⟩ => ?_⟩
  cases r with
  | bl k =>
    refine ⟨k, r3, ?_⟩
    cases k with
    | true =>
      simp only [if_true] at h3 ⊢
      refine TX.go hr3 (sl2.grow g3) h3 fun γ4 m4 e4 w4 H4 g4 hr4 sl4 rw4 h4 => ?_
      exact ⟨γ4, e, e4, m4, hr4, (rw'.mono g3).mono g4, rw4, h4⟩
    | false => exact h3 γ3 _ H3 .refl hr3 rfl
  | _ => exact h3.elim
theorem t_cmp2 (o : Ok0 g lv X.prog X.w X.K X.mg X.base) (hroom : Room (lv + 8) X.A) (tk : Takes X W) {op op' : Cop} (ha : PE X a (TX g X.mg W xi ia)) (hb : PE X b (TX g X.mg W xi ib)) (hc : PE X c (TX g X.mg W xi ic)) (hm : lastMarks [copOf op, copOf op'] [b, c] = false) :
    PT X (.Compare a [copOf op, copOf op'] [b, c] p) (TB g X.mg W xi (.cmp2 op op' ia ib ic)) := by
  have ho := op_cmp o hroom tk op
  have ho' := op_cmp o hroom tk op'
  have base : PT X (.Compare a [copOf op, copOf op'] [b, c] p) (fun σ H Q => TX g X.mg W xi ia σ H fun x H1 => TX g X.mg W xi ib σ H1 fun y H2 => rD X.mg W (cmpD g op) σ x y H2 fun z H3 => ∃ k, z = .bl k ∧ (if k = true then TX g X.mg W xi ic σ H3 fun w' H4 => rD X.mg W (cmpD g op') σ y w' H4 fun z H5 => ∃ k, z = .bl k ∧ Q k H5 else Q false H3)) := by
    refine ⟨fun pins s σ H Q I h => ?_⟩
    refine PyProof.Rows.isTrue_chain (thn (ha.run pins s σ H _ I h) fun v s1 ⟨x, H1, I1, r1, q1⟩ => PyProof.Rows.test_link (thn (hb.run pins s1 σ H1 _ I1 q1) fun u s2 ⟨y, H2, I2, r2, q2⟩ =>
      thn (ho pins s2 σ H2 x y v u _ I2 r1 r2 q2) fun d s3 ⟨z, H3, I3, r3, k, e, q3⟩ => ?_)) hm
    subst e
    cases r3
    refine wpAny_truthy_bool ?_
    cases k with
    | false => exact ite_ff ⟨H3, I3, q3⟩
    | true =>
      refine ite_tt (PyProof.Rows.test_last (thn (hc.run pins s3 σ H3 _ I3 q3) fun w' s4 ⟨z', H4, I4, r4, q4⟩ => thn (ho' pins s4 σ H4 y z' u w' _ I4 r2 r4 q4) fun d' s5 ⟨z2, H5, I5, r5, k2, e2, q5⟩ => ?_))
      subst e2
      cases r5
      exact wpAny_truthy_bool ⟨H5, I5, q5⟩
  refine PT.by base fun σ H Q ⟨γ, s, m, hr, sl, h⟩ => ?_
  simp only [evE] at h
  rw [bindB] at h
  refine TX.go hr sl h fun γ1 m1 d v H1 g1 hr1 sl1 rv h1 => ?_
  rw [bindB] at h1
  refine TX.go hr1 sl1 h1 fun γ2 m2 e w H2 g2 hr2 sl2 rw' h2 => ?_
  refine ⟨γ2, d, e, m2, hr2, rv.mono g2, rw', ?_⟩
  cases hc : cmpD g op d e m2 with
  | exc _ _ => rw [hc] at h2; exact h2
  | stuck => rw [hc] at h2; exact h2.elim
  | ok r m3 =>
    rw [hc] at h2
    refine fun γ3 z H3 g3 hr3 r3 => ?_
    cases r with
    | bl k =>
      refine ⟨k, r3, ?_⟩
      cases k with
      | true =>
        simp only [if_true, Res.bind] at h2 ⊢
        have h2' : Post (fun _ (b c : Bool) => b = c) X.mg (fun c d H' => W c d σ H') γ3 H3 (((evE g ic s m3).bind fun z m => cmpD g op' e z m).bind toB) Q := Post.grow g3 h2
        rw [bindB] at h2'
        refine TX.go hr3 (sl2.grow g3) h2' fun γ4 m4 e4 w4 H4 g4 hr4 sl4 rw4 h4 => ?_
        refine ⟨γ4, e, e4, m4, hr4, (rw'.mono g3).mono g4, rw4, ?_⟩
        cases hq : cmpD g op' e e4 m4 with
        | exc _ _ => rw [hq] at h4; exact h4
        | stuck => rw [hq] at h4; exact h4.elim
        | ok r5 m5 =>
          rw [hq] at h4
          cases r5 with
          | bl k5 => exact fun γ5 z5 H5 g5 hr5 rv5 => ⟨k5, rv5, h4 γ5 k5 H5 g5 hr5 rfl⟩
          | _ => exact h4.elim
      | false => simp only [Bool.false_eq_true, if_false]; exact h2 γ3 false H3 g3 hr3 rfl
    | _ => exact h2.elim
theorem t_isN (h : PE X a (TX g X.mg W xi ia)) {j : Nat} {p' : Pos} : PT X (.Compare a [.Is] [.Constant .none j p'] p) (TB g X.mg W xi (.isN false ia)) := PT.by (pt_cmp (pc_isN h) rfl) fun σ H Q ⟨γ, s, m, hr, sl, h⟩ => by
  simp only [evE] at h
  rw [bindB] at h
  refine TX.go hr sl h fun γ1 m1 d v H1 g1 hr1 sl1 rv h1 => ⟨_, rfl, ?_⟩
  cases d with
  | non => cases rv; exact h1 γ1 _ H1 .refl hr1 rfl
  | ref i => obtain ⟨a, _, rfl⟩ := rv; exact h1 γ1 _ H1 .refl hr1 rfl
  | bl b => cases rv; exact h1 γ1 _ H1 .refl hr1 rfl
  | int i => cases rv; exact h1 γ1 _ H1 .refl hr1 rfl
  | str i => cases rv; exact h1 γ1 _ H1 .refl hr1 rfl
  | tup xs => obtain ⟨a, rfl, _⟩ := rv; exact h1 γ1 _ H1 .refl hr1 rfl
  | lst xs => obtain ⟨a, rfl, _⟩ := rv; exact h1 γ1 _ H1 .refl hr1 rfl
  | dct xs => obtain ⟨a, rfl, _⟩ := rv; exact h1 γ1 _ H1 .refl hr1 rfl
  | obj c xs => obtain ⟨a, rfl, _⟩ := rv; exact h1 γ1 _ H1 .refl hr1 rfl
theorem t_notN (h : PE X a (TX g X.mg W xi ia)) {j : Nat} {p' : Pos} : PT X (.Compare a [.IsNot] [.Constant .none j p'] p) (TB g X.mg W xi (.isN true ia)) := PT.by (pt_cmp (pc_notN h) rfl) fun σ H Q ⟨γ, s, m, hr, sl, h⟩ => by
  simp only [evE] at h
  rw [bindB] at h
  refine TX.go hr sl h fun γ1 m1 d v H1 g1 hr1 sl1 rv h1 => ⟨_, rfl, ?_⟩
  cases d with
  | non => cases rv; exact h1 γ1 _ H1 .refl hr1 rfl
  | ref i => obtain ⟨a, _, rfl⟩ := rv; exact h1 γ1 _ H1 .refl hr1 rfl
  | bl b => cases rv; exact h1 γ1 _ H1 .refl hr1 rfl
  | int i => cases rv; exact h1 γ1 _ H1 .refl hr1 rfl
  | str i => cases rv; exact h1 γ1 _ H1 .refl hr1 rfl
  | tup xs => obtain ⟨a, rfl, _⟩ := rv; exact h1 γ1 _ H1 .refl hr1 rfl
  | lst xs => obtain ⟨a, rfl, _⟩ := rv; exact h1 γ1 _ H1 .refl hr1 rfl
  | dct xs => obtain ⟨a, rfl, _⟩ := rv; exact h1 γ1 _ H1 .refl hr1 rfl
  | obj c xs => obtain ⟨a, rfl, _⟩ := rv; exact h1 γ1 _ H1 .refl hr1 rfl
end
end DI
end

section
set_option linter.all false
set_option maxRecDepth 100000
set_option maxHeartbeats 1000000
/-! DI.S20a: dict displays, sums of ints. -/
namespace DI
open PySem L2
open PyProof.Rows hiding St
theorem upd2 {H : Hp} {p : Addr} {o u : HO} : upd (upd H p o) p u = upd H p u := by
  funext b
  by_cases e : b = p
  · rw [e, upd_same, upd_same]
  · rw [upd_ne e, upd_ne e, upd_ne e]
section
variable {X : Cx} {g : G} {W : WX} {xi : XI} {lv : Nat} {a b c e : Expr} {ia ib ic ie : E} {p : Pos}
/-- a new object is locked at once -/
theorem PE.lock {t : TE} (h : PE X e t) : PE X e (fun σ H Q => t σ H fun v H1 => ∃ d u, v = .ref d ∧ H1 d = some u ∧ Mut (some u) ∧ ∀ od, Q v (upd H1 d (.frz od u))) := ⟨fun pins s σ H Q I q =>
  thn (h.run pins s σ H _ I q) fun u s1 ⟨v, H1, I1, r, d, o, ev, hd, mu, q1⟩ => by
    obtain ⟨od, I2⟩ := I1.lock hd mu
    exact ⟨v, _, I2, r, q1 od⟩⟩
theorem n_addI (ha : PE X a (TX g X.mg W xi ia)) (hb : PE X b (TX g X.mg W xi ib)) : PE X (.BinOp a .Add b p) (TX g X.mg W xi (.addI ia ib)) := PE.by (pe_op op_add ha hb) fun σ H Q ⟨γ, s, m, hr, sl, h⟩ => by
  simp only [evE] at h
  refine TX.go hr sl h fun γ1 m1 d v H1 g1 hr1 sl1 rv h1 => ?_
  refine TX.go hr1 sl1 h1 fun γ2 m2 e w H2 g2 hr2 sl2 rw' h2 => ?_
  split at h2
  · rename_i i j
    have rv' := rv.mono g2
    cases rv'
    cases rw'
    exact ⟨i, j, rfl, rfl, h2 γ2 _ H2 .refl hr2 rfl⟩
  · exact h2.elim
theorem n_dct0 : PE X (.Dict [] [] p) (TX g X.mg W xi (.dct [])) := PE.by (PE.lock pe_dnewK) fun σ H Q ⟨γ, s, m, hr, sl, h⟩ => by
  simp only [evE, evEs, Res.bind, pairsD] at h
  refine fun q hq => ⟨q, .dK [], rfl, upd_same, trivial, fun od => ?_⟩
  rw [upd2]
  have gg : Grow γ H (γ.add q (.dct []) (.frz od (.dK []))) (upd H q (.frz od (.dK []))) := Grow.add hr hq
  exact h _ _ _ gg (hr.add hq ⟨od, [], upd_same, .nil⟩) ⟨q, rfl, Gh.add_same⟩
/-- a display's keys and values in a row -/
def flatP : List (E × E) → List E
  | [] => []
  | (k, v) :: r => k :: v :: flatP r
def flatW : List (V × V) → List V
  | [] => []
  | (k, v) :: r => k :: v :: flatW r
theorem TX.goB {mg : Str → Option Value} {σ : L2.St} {s : Sl} {m : MS} {γb γ : Gh} {Hb H : Hp} {a : E} {F : D → MS → Res D} {Q : VK} (gb : Grow γb Hb γ H) (hr : HR mg γ m H) (sl : SlR mg xi γ H σ s) (h : Post RV mg (fun c d H' => W c d σ H') γb Hb ((evE g a s m).bind F) Q)
    {P : VK} (k : ∀ γ1 m1 d v H1, Grow γ H γ1 H1 → HR mg γ1 m1 H1 → SlR mg xi γ1 H1 σ s → RV γ1 v d → Post RV mg (fun c d H' => W c d σ H') γb Hb (F d m1) Q → P v H1) : TX g mg W xi a σ H P := by
  refine ⟨γ, s, m, hr, sl, ?_⟩
  cases q : evE g a s m with
  | ok d m1 => rw [q] at h; exact fun γ' v H' gg hr' rv => k γ' m1 d v H' gg hr' (sl.grow gg) rv h
  | exc x m1 => rw [q] at h; exact Post.grow gb h
  | stuck => rw [q] at h; exact h.elim
theorem pairs_of {mg : Str → Option Value} {σ : L2.St} {s : Sl} {Q0 : VK} {γb : Gh} {Hb : Hp} : ∀ (pl : List (E × E)) {H : Hp} {γ : Gh} {m : MS} {Q : List (V × V) → Hp → Prop} {F : List D → MS → Res D}, (∀ p ∈ pl, (∀ x m, splD p.1 x m = some [x]) ∧ ∀ x m, splD p.2 x m = some [x]) → Grow γb Hb γ H → HR mg γ m H → SlR mg xi γ H σ s →
    Post RV mg (fun c d H' => W c d σ H') γb Hb ((evEs g (flatP pl) s m).bind F) Q0 → (∀ ps H' γ' m' ds, Grow γ H γ' H' → HR mg γ' m' H' → RVs γ' (flatW ps) ds → Post RV mg (fun c d H' => W c d σ H') γb Hb (F ds m') Q0 → Q ps H') →
      tPairs (pl.map fun q => (TX g mg W xi q.1, TX g mg W xi q.2)) σ H Q
  | [], H, γ, m, Q, F, _, gb, hr, sl, h, k => k [] H γ m [] .refl hr .nil h
  | (ik, iv) :: r, H, γ, m, Q, F, ns, gb, hr, sl, h, k => by
    obtain ⟨n1, n2⟩ := ns (ik, iv) (List.mem_cons_self ..)
    have e : ∀ m, (evEs g (flatP ((ik, iv) :: r)) s m).bind F = (evE g ik s m).bind fun x m => (evE g iv s m).bind fun y m => (evEs g (flatP r) s m).bind fun ds m => F (x :: y :: ds) m := fun m => by
      simp only [flatP, evEs]
      cases evE g ik s m with
      | ok x m1 =>
        simp only [Res.bind, n1, liftO]
        cases evE g iv s m1 with
        | ok y m2 =>
          simp only [Res.bind, n2, liftO]
          cases evEs g (flatP r) s m2 <;> rfl
        | exc _ _ => rfl
        | stuck => rfl
      | exc _ _ => rfl
      | stuck => rfl
    rw [e] at h
    refine TX.goB gb hr sl h fun γ1 m1 d v H1 g1 hr1 sl1 rv h1 => ?_
    refine TX.goB (gb.trans g1) hr1 sl1 h1 fun γ2 m2 d2 v2 H2 g2 hr2 sl2 rv2 h2 => ?_
    refine pairs_of r (fun p hp => ns p (List.mem_cons_of_mem _ hp)) ((gb.trans g1).trans g2) hr2 sl2 h2 fun ps H' γ' m' ds gg hr' rs h3 => ?_
    exact k ((v, v2) :: ps) H' γ' m' (d :: d2 :: ds) ((g1.trans g2).trans gg) hr' (.cons ((rv.mono g2).mono gg) (.cons (rv2.mono gg) rs)) h3
theorem pairsD_of {γ : Gh} : ∀ {ps : List (V × V)} {ds : List D} {kvs : List (Key × D)}, RVs γ (flatW ps) ds → pairsD ds = some kvs → ∃ kw : List (Key × V), ps = kw.map (fun kv => (kV kv.1, kv.2)) ∧ RK γ kw kvs
  | [], _, kvs, .nil, h => by cases h; exact ⟨[], rfl, .nil⟩
  | (x, y) :: ps, _, kvs, .cons (b := d) rx (.cons (b := d2) (l₂ := ds) ry t), h => by
    simp only [pairsD] at h
    cases hk : keyD d with
    | none => rw [hk] at h; cases h
    | some k =>
      cases hp : pairsD ds with
      | none => rw [hk, hp] at h; cases h
      | some r =>
        rw [hk, hp] at h
        cases h
        obtain ⟨kw, e, rk⟩ := pairsD_of t hp
        exact ⟨(k, y) :: kw, by rw [List.map_cons, e, keyD_rv rx hk], .cons ⟨rfl, ry⟩ rk⟩
theorem rk_any {γ : Gh} {kw : List (Key × V)} {kvs : List (Key × D)} (r : RK γ kw kvs) (k : Key) : (kw.any fun kv => decide (kv.1 = k)) = (kvs.any fun kv => decide (kv.1 = k)) := by
  induction r with
  | nil => rfl
  | cons h t ih => rw [List.any_cons, List.any_cons, ih, h.1]
theorem rk_putK {γ : Gh} {kw : List (Key × V)} {kvs : List (Key × D)} {k : Key} {v : V} {d : D} (r : RK γ kw kvs) (rv : RV γ v d) : RK γ (putK kw k v) (put kvs k d) := by
  have hmap : RK γ (kw.map fun kv => if kv.1 = k then (kv.1, v) else kv) (kvs.map fun kv => if kv.1 = k then (kv.1, d) else kv) := by
    induction r with
    | nil => exact .nil
    | @cons p q ps qs h t ih =>
      refine .cons ?_ ih
      dsimp only
      by_cases e : p.1 = k
      · rw [if_pos e, if_pos (h.1 ▸ e)]
        exact ⟨h.1, rv⟩
      · rw [if_neg e, if_neg (h.1 ▸ e)]
        exact h
  have happ : RK γ (kw ++ [(k, v)]) (kvs ++ [(k, d)]) := by
    induction r with
    | nil => exact .cons ⟨rfl, rv⟩ .nil
    | cons h t ih => exact .cons h (ih (by
        refine (?_ : RK γ _ _)
        cases hmap with
        | cons _ z => exact z))
  unfold putK put
  rw [rk_any r k]
  split
  · exact hmap
  · exact happ
theorem rk_merge {γ : Gh} {more : List (Key × V)} {mored : List (Key × D)} (r : RK γ more mored) : ∀ {kw : List (Key × V)} {kvs : List (Key × D)}, RK γ kw kvs → RK γ (mergeK kw more) (mored.foldl (fun acc kv => put acc kv.1 kv.2) kvs) := by
  induction r with
  | nil => exact fun q => q
  | @cons p q ps qs h t ih =>
    intro kw kvs q2
    obtain ⟨pk, pv⟩ := p
    obtain ⟨qk, qv⟩ := q
    obtain ⟨h1, h2⟩ := h
    simp only at h1 h2
    subst h1
    exact ih (rk_putK q2 h2)
theorem n_dct {keys : List (Option Expr)} {values : List Expr} {pl : List (E × E)} (hp : PPs X p keys values (pl.map fun q => (TX g X.mg W xi q.1, TX g X.mg W xi q.2))) (hns : ∀ p ∈ pl, (∀ x m, splD p.1 x m = some [x]) ∧ ∀ x m, splD p.2 x m = some [x])
    (hall : keys.all (·.isSome) = true) (hl : keys.length = values.length) (h0 : keys ≠ []) (h15 : keys.length ≤ 15) : PE X (.Dict keys values p) (TX g X.mg W xi (.dct (flatP pl))) := PE.by (PE.lock (pe_disp hp hall hl h0 h15)) fun σ H Q ⟨γ, s, m, hr, sl, h⟩ => by
  simp only [evE] at h
  refine fun q hq => ?_
  obtain ⟨hr0, g0⟩ := hr.obs (o := .dK []) hq
  have nq := hr.noAs hq
  have fq := hr.noF hq
  refine pairs_of pl hns g0 hr0 (sl.grow g0) h fun ps H2 γ2 m2 ds g2 hr2 rs h2 => ?_
  have hD := g2.fr _ _ upd_same nq
  split at h2
  · rename_i kvs hk
    split at h2
    · rename_i hlen
      obtain ⟨kw, e, rk⟩ := pairsD_of rs hk
      refine ⟨hD, kw, e, by rw [rk.length]; exact hlen, q, .dK (mergeK [] kw), rfl, upd_same, trivial, fun od => ?_⟩
      rw [upd_upd]
      have n1 := g2.nas upd_same nq
      have n2 := g2.nF upd_same fq
      have hrv := fun {d : D} {o : HO} => RV.know (γ := γ2) (a := q) (d := d) (o := o) n2
      have rm := rk_merge rk (kw := []) (kvs := []) .nil
      have hr3 := hr2.own (o := .frz od (.dK (mergeK [] kw))) n1 n2
      have g3 : Grow γ H γ2 (upd H2 q (.frz od (.dK (mergeK [] kw)))) := by
        have z := g0.trans g2
        exact ⟨z.as, z.F, z.Fn, fun b u q' hn => by rw [upd_ne (fun e => by rw [e, hq] at q'; cases q')]; exact z.fr b u q' hn, fun b u q' => by
          obtain ⟨u', q2⟩ := z.th b u q'
          exact ⟨u', by rw [upd_ne (fun e => by rw [e, hq] at q'; cases q')]; exact q2⟩, z.Z⟩
      exact h2 _ _ _ (g3.know (d := .dct _) (o := .frz od (.dK (mergeK [] kw))) hr3 n2 hq) (hr3.know (d := .dct _) n1 n2 upd_same ⟨od, _, upd_same, Paired.mapP rm fun _ _ x => ⟨x.1, hrv _ _ x.2⟩⟩ hrv) ⟨q, rfl, Gh.add_same⟩
    · exact h2.elim
  · exact h2.elim
end
end DI
end

section
set_option linter.all false
set_option maxRecDepth 100000
set_option maxHeartbeats 1000000
/-! DI.S20b: lists of a def's own; zip; is not True. -/
namespace DI
open PySem L2
open PyProof.Rows hiding St
section
variable {mg : Str → Option Value} {xi : XI} {γ0 γ γ1 : Gh} {H0 H H1 : Hp} {σ : L2.St} {s : Sl} {m m1 : MS} {W : WX} {g : G}
/-- a slot owns a new object -/
theorem StR.newO (st : StR mg xi γ0 H0 γ H σ s m) {i : Nat} {c' : MC} {q : Addr} {o : HO} (hq : H q = none) (hk : ∀ k fs, c' ≠ .ins k fs) (hc : COk mg γ (upd H q o) q c') : StR mg xi γ0 H0 γ (upd H q o) (σ.set i (some (.ref q))) (s.set i (some (.ow c'))) m := by
  have h0 : H0 q = none := st.gr.none_back hq
  have nF : γ.F q = none := by
    cases e : γ.F q with
    | none => rfl
    | some d =>
      obtain ⟨o', z⟩ := st.hr.there e
      rw [hq] at z; cases z
  have nA : q ∉ γ.as := st.hr.noAs hq
  have ne : ∀ {j : Nat} {x : SV}, (s.set i (some (.ow c')))[j]? = some (some x) → (x = .ow c' ∧ j = i) ∨ (j ≠ i ∧ s[j]? = some (some x)) := fun {j x} h => by
    by_cases e : j = i
    · subst e
      rw [List.getElem?_set_self (by have := (List.getElem?_eq_some_iff.mp h).1; simpa using this)] at h
      cases h
      exact .inl ⟨rfl, rfl⟩
    · rw [List.getElem?_set_ne (Ne.symm e)] at h
      exact .inr ⟨e, h⟩
  have gr : Grow γ0 H0 γ (upd H q o) := ⟨st.gr.as, st.gr.F, st.gr.Fn, fun b u z hn => by rw [upd_ne (fun e => by rw [e, h0] at z; cases z)]; exact st.gr.fr b u z hn, fun b u z => by
    obtain ⟨u', q'⟩ := st.gr.th b u z
    exact ⟨u', by rw [upd_ne (fun e => by rw [e, h0] at z; cases z)]; exact q'⟩, st.gr.Z⟩
  have gq : Grow γ H γ (upd H q o) := ⟨⟨[], by simp, by simp⟩, fun _ _ h => h, fun _ _ h => .inl h, fun b u z _ => by rw [upd_ne (fun e => by rw [e, hq] at z; cases z)]; exact z, fun b u z => ⟨u, by rw [upd_ne (fun e => by rw [e, hq] at z; cases z)]; exact z⟩, fun _ _ h => h⟩
  have slg := st.sl.grow gq
  refine ⟨gr, st.hr.own nA nF, ⟨by simp [st.sl.len], fun j x hx => ?_, fun j k d d' b h1 h2 h3 h4 => ?_⟩, fun j d b h1 h2 => ?_⟩
  · rcases ne hx with ⟨rfl, rfl⟩ | ⟨e, h'⟩
    · exact ⟨.ref q, List.getElem?_set_self (by rw [st.sl.len]; have := (List.getElem?_eq_some_iff.mp hx).1; simpa using this), q, rfl, hc, nA, nF⟩
    · obtain ⟨w, e1, r1⟩ := slg.at_ j x h'
      exact ⟨w, by rw [List.getElem?_set_ne (Ne.symm e)]; exact e1, r1⟩
  · have fresh : ∀ {j : Nat} {c : MC}, s[j]? = some (some (.ow c)) → σ[j]? ≠ some (some (V.ref q)) := fun {j c} h1 z => by
      obtain ⟨w, e1, a, rfl, co, _⟩ := st.sl.at_ j _ h1
      rw [z] at e1
      cases e1
      obtain ⟨o', z'⟩ := co.there
      rw [hq] at z'; cases z'
    have at_i : ∀ {j : Nat}, (σ.set i (some (V.ref q)))[j]? = some (some (V.ref b)) → j = i → b = q := fun {j} z e => by
      subst e
      rw [List.getElem?_set_self (by have := (List.getElem?_eq_some_iff.mp z).1; simpa using this)] at z
      cases z; rfl
    rcases ne h1 with ⟨_, rfl⟩ | ⟨e, h1'⟩
    · rcases ne h2 with ⟨_, rfl⟩ | ⟨e', h2'⟩
      · rfl
      · have := at_i h3 rfl
        subst this
        rw [List.getElem?_set_ne (Ne.symm e')] at h4
        exact absurd h4 (fresh h2')
    · rw [List.getElem?_set_ne (Ne.symm e)] at h3
      rcases ne h2 with ⟨_, rfl⟩ | ⟨e', h2'⟩
      · have := at_i h4 rfl
        subst this
        exact absurd h3 (fresh h1')
      · rw [List.getElem?_set_ne (Ne.symm e')] at h4
        exact st.sl.ap j k d d' b h1' h2' h3 h4
  · rcases ne h1 with ⟨z, rfl⟩ | ⟨e, h1'⟩
    · cases z
      rw [List.getElem?_set_self (by have := (List.getElem?_eq_some_iff.mp h2).1; simpa using this)] at h2
      cases h2
      exact ⟨h0, fun k fs z => absurd z (hk k fs)⟩
    · rw [List.getElem?_set_ne (Ne.symm e)] at h2
      exact st.own j d b h1' h2
theorem RV.addK {a : Addr} {d0 : D} {o : HO} (n : γ.F a = none) {v : V} {d : D} (r : RV γ v d) : RV (γ.add a d0 o) v d := by
  have f : ∀ {b : Addr} {e : D}, γ.F b = some e → (γ.add a d0 o).F b = some e := fun {b e} h => by rw [Gh.add_ne (fun z => by rw [z, n] at h; cases h)]; exact h
  cases d with
  | non => exact r
  | bl b => exact r
  | int i => exact r
  | str s => exact r
  | ref i => exact r
  | tup xs => obtain ⟨b, e, h⟩ := r; exact ⟨b, e, f h⟩
  | lst xs => obtain ⟨b, e, h⟩ := r; exact ⟨b, e, f h⟩
  | dct xs => obtain ⟨b, e, h⟩ := r; exact ⟨b, e, f h⟩
  | obj c fs => obtain ⟨b, e, h⟩ := r; exact ⟨b, e, f h⟩
theorem RVs.addK {a : Addr} {d0 : D} {o : HO} (n : γ.F a = none) {vs : List V} {ds : List D} (r : RVs γ vs ds) : RVs (γ.add a d0 o) vs ds := Paired.mapP r fun _ _ h => h.addK n
theorem RK.addK {κ : Type} {a : Addr} {d0 : D} {o : HO} (n : γ.F a = none) {vs : List (κ × V)} {ds : List (κ × D)} (r : RK γ vs ds) : RK (γ.add a d0 o) vs ds := Paired.mapP r fun _ _ h => ⟨h.1, h.2.addK n⟩
/-- what a slot owns, as a known value -/
theorem HR.known (h : HR mg γ m H) {a : Addr} {d : D} {o : HO} (ho : H a = some o) (n1 : a ∉ γ.as) (n2 : γ.F a = none) (f : FOk mg (γ.add a d o) H a d) : HR mg (γ.add a d o) m H := by
  refine ⟨fun b e q => ?_, h.len, h.nd, fun i c b e1 e2 => ?_, fun b e q => ?_, fun b u q => ?_, fun b q => ?_⟩
  · by_cases z : b = a
    · subst z
      rw [Gh.add_same] at q
      cases q
      exact f
    · rw [Gh.add_ne z] at q
      have k := h.fr b e q
      cases e with
      | tup xs => obtain ⟨vs, q, r⟩ := k; exact ⟨vs, q, r.addK n2⟩
      | lst xs => obtain ⟨vs, q, r⟩ := k; exact ⟨vs, q, r.addK n2⟩
      | dct xs => obtain ⟨o, vs, q, r⟩ := k; exact ⟨o, vs, q, r.addK n2⟩
      | obj c fs => obtain ⟨C, dx, fw, q, e, r⟩ := k; exact ⟨C, dx, fw, q, e, r.addK n2⟩
      | _ => exact k
  · obtain ⟨k1, k2⟩ := h.ce i c b e1 e2
    have ne : b ≠ a := fun z => n1 (z ▸ List.mem_of_getElem? e2)
    refine ⟨?_, by rw [Gh.add_ne ne]; exact k2⟩
    cases c with
    | lst xs => obtain ⟨vs, q, r⟩ := k1; exact ⟨vs, q, r.addK n2⟩
    | dct xs => obtain ⟨vs, q, r⟩ := k1; exact ⟨vs, q, r.addK n2⟩
    | ins c fs => obtain ⟨C, dx, fw, q, e, r⟩ := k1; exact ⟨C, dx, fw, q, e, r.addK n2⟩
    | dead => exact k1
  · by_cases z : b = a
    · subst z
      exact ⟨o, if_pos rfl⟩
    · rw [Gh.add_ne z] at q
      obtain ⟨u, hu⟩ := h.zf b e q
      exact ⟨u, by rw [← hu]; exact if_neg z⟩
  · have q' : (if b = a then some o else γ.Z b) = some u := q
    by_cases z : b = a
    · subst z
      rw [if_pos rfl] at q'
      cases q'
      exact ⟨ho, n1⟩
    · rw [if_neg z] at q'
      exact h.zh b u q'
  · have q' : (if b = a then some d else γ.F b) = none := q
    show (if b = a then some o else γ.Z b) = none
    by_cases z : b = a
    · rw [if_pos z] at q'; cases q'
    · rw [if_neg z] at q' ⊢
      exact h.zn b q'
end
section
variable {X : Cx} {g : G} {W : WX} {xi : XI} {lv : Nat} {a b c e : Expr} {ia ib ic ie : E} {p : Pos}
/-- x[b], x a list of the def's own -/
theorem n_idxO {i : Nat} {x : Str} {p' : Pos} (hN : X.N[i]? = some x) (hv : Vis X.env.scope x) (hd : (x == ("__debug__" : Str)) = false) (hcd : (x == ("__classdict__" : Str)) = false) (hb : PE X b (TX g X.mg W xi ib)) (hs : PlainIx b) : PE X (.Subscript (.Name x p') b p) (TX g X.mg W xi (.idxO i ib)) :=
  PE.by (pe_ix ix_list (pe_var hN hv hd hcd) hb hs) fun σ H Q ⟨γ, s, m, hr, sl, h⟩ => by
    simp only [evE] at h
    split at h
    · rename_i xs hi
      obtain ⟨v, e1, a, rfl, co, n1, n2⟩ := sl.at_ i _ hi
      refine ⟨.ref a, e1, TX.go hr sl h fun γ1 m1 d w H1 g1 hr1 sl1 rv h1 => ?_⟩
      obtain ⟨v', e1', a', rfl, co', _⟩ := sl1.at_ i _ hi
      rw [e1] at e1'
      cases e1'
      obtain ⟨vs, q, rvs⟩ := co'
      cases d with
      | int j =>
        cases rv
        cases hat : atI xs j with
        | none =>
          simp only [hat, liftO] at h1
          exact h1.elim
        | some r =>
          simp only [hat, liftO] at h1
          obtain ⟨u, eu, ru⟩ := atI_rv rvs hat
          exact ⟨a, vs, j, u, rfl, rfl, .of q, eu, h1 γ1 u H1 .refl hr1 ru⟩
      | _ => exact h1.elim
    · exact h.elim
theorem s_newL {i : Nat} {x : Str} {p' q' : Pos} {es : List Expr} {as : List E} (hN : X.N.Nodup) (hi : X.N[i]? = some x) (hx : Loc X.env.scope x) (hf : X.fn x = true ∨ X.env.scope.names.lookup x = some .local) (ha : PA X es (TXs g X.mg W xi as)) :
    PS X (.Assign [.Name x p'] (.List es q') p) (TS1 g X.mg W xi (.newL i as)) := PS.by (ps_set hN hi hx (pe_lst ha) (swaps_plain rfl) hf) fun D σ H ⟨γ0, H0, γ, s, m, st, h⟩ => by
  simp only [evS] at h
  refine TXs.st st h fun γ1 m1 ds vs H1 st1 rs h1 => ?_
  split at h1
  · rename_i hl
    refine ⟨maxLen_le (by rw [rs.length]; exact hl), fun q hq => ?_⟩
    have gq : Grow γ1 H1 γ1 (upd H1 q (.lst vs)) := ⟨⟨[], by simp, by simp⟩, fun _ _ h => h, fun _ _ h => .inl h, fun b u z _ => by rw [upd_ne (fun e => by rw [e, hq] at z; cases z)]; exact z, fun b u z => ⟨u, by rw [upd_ne (fun e => by rw [e, hq] at z; cases z)]; exact z⟩, fun _ _ h => h⟩
    exact h1 γ1 _ _ (st1.newO hq (fun _ _ z => nomatch z) ⟨vs, upd_same, rs.mono gq⟩)
  · exact h1.elim
/-- x.append(e), x a list of the def's own -/
theorem s_appV {i : Nat} {x : Str} {pn apos cpos : Pos} (hN : X.N[i]? = some x) (hv : Vis X.env.scope x) (hd : (x == ("__debug__" : Str)) = false) (hcd : (x == ("__classdict__" : Str)) = false) (he : PE X e (TX g X.mg W xi ie)) (hse : isStarX e = false) (hl : (apos.endLine == cpos.line) = true) :
    PS X (.Expr (.Call (.Attribute (.Name x pn) "append" apos) [e] [] cpos) p) (TS1 g X.mg W xi (.appV i ie)) :=
  PS.by (ps_expr (pe_bm PySem.F.plainAttrs_list PySem.F.slot_list_append PySem.F.type_list_append mt_append (pe_var hN hv hd hcd) (pa_cons he pa_nil (starEach_cons hse)) rfl (by rw [starEach_cons hse]; rfl) hl (starEach_cons hse)) (swaps_plain rfl)) fun D σ H ⟨γ0, H0, γ, s, m, st, h⟩ => by
    simp only [evS] at h
    split at h
    · rename_i xs hi
      obtain ⟨v, e1, a, rfl, ⟨vs, q, rvs⟩, n1, n2⟩ := st.sl.at_ i _ hi
      refine ⟨.ref a, e1, .inl ⟨rfl, vs, .of q⟩, (TX.st st h fun γ1 m1 d w H1 st1 rv h1 => ?_ : TX g X.mg W xi ie σ H fun w H1 => rAppend (.ref a) [w] H1 fun _ H' => D.nx σ H')⟩
      split at h1
      · rename_i hl
        obtain ⟨v', e1', a', rfl, ⟨vs', q', rvs'⟩, n1', n2'⟩ := st1.sl.at_ i _ hi
        rw [e1] at e1'
        cases e1'
        exact ⟨a, vs', w, rfl, rfl, q', Nat.lt_of_lt_of_le (by rw [rvs'.length]; exact hl) (maxLen_le (Nat.le_refl _)), h1 γ1 σ _ (st1.chg hi e1 (fun z => nomatch z) (fun _ _ z => nomatch z) fun H' hH => ⟨_, hH, rvs'.append (.cons rv .nil)⟩)⟩
      · exact h1.elim
    · exact h.elim
/-- return x, x a list of the def's own -/
theorem s_retO {i : Nat} {x : Str} {pn : Pos} (hN : X.N[i]? = some x) (hv : Vis X.env.scope x) (hd : (x == ("__debug__" : Str)) = false) (hcd : (x == ("__classdict__" : Str)) = false) : PS X (.Return (some (.Name x pn)) p) (TS1 g X.mg W xi (.retO i)) :=
  PS.by (ps_ret (pe_var hN hv hd hcd)) fun D σ H ⟨γ0, H0, γ, s, m, st, h⟩ => by
    simp only [evS] at h
    split at h
    · rename_i xs hi
      obtain ⟨v, e1, a, rfl, ⟨vs, q, rvs⟩, n1, n2⟩ := st.sl.at_ i _ hi
      refine ⟨.ref a, e1, ?_⟩
      obtain ⟨h0, _⟩ := st.own i _ a hi e1
      have gk : Grow γ0 H0 (γ.add a (.lst xs) (.lst vs)) H := ⟨st.gr.as, fun b d z => by
          have z' := st.gr.F b d z
          rw [Gh.add_ne (fun e => by rw [e, n2] at z'; cases z')]; exact z', fun b d z => by
          by_cases e : b = a
          · rw [e]; exact .inr h0
          · rw [Gh.add_ne e] at z; exact st.gr.Fn b d z, st.gr.fr, st.gr.th, fun b o z => by
          have z' := st.gr.Z b o z
          have e : b ≠ a := fun e => by rw [e, st.hr.zn a n2] at z'; cases z'
          exact (if_neg e).trans z'⟩
      exact h _ _ H gk (st.hr.known q n1 n2 ⟨vs, .inl q, rvs.addK n2⟩) ⟨a, rfl, Gh.add_same⟩
    · exact h.elim
theorem yl_zip {K : PySem.W.Frag} {mg : Str → Option Value} {γ : Gh} {a b : Addr} {xs ys : List D} (h1 : γ.F a = some (.lst xs)) (h2 : γ.F b = some (.lst ys)) : Yl mg γ (Itz K a b) ((xs.zip ys).map fun p => .tup [p.1, p.2]) := fun γ' H' m hF' hZ' hr i => by
  have f1 := hF' a _ h1
  have f2 := hF' b _ h2
  obtain ⟨vs, q1, r1⟩ := hr.fr a _ f1
  obtain ⟨ws, q2, r2⟩ := hr.fr b _ f2
  refine ⟨fun d hd => ?_, fun hl => ⟨vs, ws, .inl q1, .inl q2, ?_⟩⟩
  · rw [List.getElem?_map] at hd
    cases hz : (xs.zip ys)[i]? with
    | none => rw [hz] at hd; cases hd
    | some p =>
      rw [hz] at hd
      cases hd
      rw [List.getElem?_zip_eq_some] at hz
      obtain ⟨v, hv, rv⟩ := RVs.get r1 hz.1
      obtain ⟨w, hw, rw'⟩ := RVs.get r2 hz.2
      refine ⟨⟨vs, ws, v, w, .inl q1, .inl q2, hv, hw⟩, fun x H2 ⟨T, x', y', ex, hT, eH, k1, k2⟩ => ?_⟩
      subst ex eH
      have e1 := k1 vs (.inl q1)
      rw [hv] at e1
      cases e1
      have e2 := k2 ws (.inl q2)
      rw [hw] at e2
      cases e2
      have gg : Grow γ' H' (γ'.add T (.tup [p.1, p.2]) (.tup [v, w])) (upd H' T (.tup [v, w])) := Grow.add hr hT
      exact ⟨_, gg, hr.add hT ⟨[v, w], .inl upd_same, .cons (rv.mono gg) (.cons (rw'.mono gg) .nil)⟩, ⟨T, rfl, Gh.add_same⟩⟩
  · rw [List.length_map, List.length_zip] at hl
    rw [r1.length, r2.length]
    omega
theorem i_zip {p' tpos : Pos} {elts : List Expr} {kk : Nat} (hg : Gl X "zip") (hm : X.mg "zip" = none) (hsa : isStarX a = false) (hsb : isStarX b = false) (ha : PE X a (TX g X.mg W xi ia)) (hb : PE X b (TX g X.mg W xi ib)) :
    PI X (.Tuple elts kk tpos) (.Call (.Name "zip" p') [a, b] [] p) (TIt g X.mg W xi (.zip ia ib)) :=
  PI.by (pi_zip hg hm (pa_cons ha (pa_cons hb pa_nil (starEach_cons hsb)) (starEach_cons hsa)) (starEach_cons hsa) (by rw [starEach_cons hsb]; rfl)) fun σ H R ⟨γ, s, m, hr, sl, h⟩ => by
    simp only [evIt] at h
    refine TX.go hr sl h fun γ1 m1 d v H1 g1 hr1 sl1 rv h1 => ?_
    refine TX.go hr1 sl1 h1 fun γ2 m2 e w H2 g2 hr2 sl2 rw' h2 => ?_
    cases d with
    | lst xs =>
      cases e with
      | lst ys =>
        obtain ⟨a', rfl, fa⟩ := rv.mono g2
        obtain ⟨b', rfl, fb⟩ := rw'
        obtain ⟨vs, q1, _⟩ := hr2.fr a' _ fa
        obtain ⟨ws, q2, _⟩ := hr2.fr b' _ fb
        exact ⟨a', b', vs, ws, rfl, .inl q1, .inl q2, h2 γ2 _ H2 .refl hr2 (yl_zip fa fb)⟩
      | _ => exact h2.elim
    | _ => exact h2.elim
/-- x is not True, of a truth value x -/
theorem op_notT : OpR X (compareOp .IsNot) (fun x y H Q => ∃ a b, x = .bl a ∧ y = .bl b ∧ Q (.bl (a != b)) H) := by
  intro pins s σ H x y v u Q I rx ry h
  obtain ⟨a, b, rfl, rfl, q⟩ := h
  cases rx
  cases ry
  exact PySem.wpAny_isNot_plain (by cases a <;> cases b <;> rfl) ⟨.bl _, H, I, by cases a <;> cases b <;> rfl, q⟩
theorem n_notT {j : Nat} {p' : Pos} (ha : PE X a (TX g X.mg W xi ia)) : PE X (.Compare a [.IsNot] [.Constant (.bool true) j p'] p) (TX g X.mg W xi (.not ia)) := PE.by (pe_cmpR op_notT ha pe_bl rfl) fun σ H Q ⟨γ, s, m, hr, sl, h⟩ => by
  simp only [evE] at h
  refine TX.go hr sl h fun γ1 m1 d v H1 g1 hr1 sl1 rv h1 => ?_
  cases d with
  | bl b => cases rv; exact ⟨b, true, rfl, rfl, by cases b <;> exact h1 γ1 _ H1 .refl hr1 rfl⟩
  | _ => exact h1.elim
theorem t_notT {j : Nat} {p' : Pos} (ha : PE X a (TX g X.mg W xi ia)) : PT X (.Compare a [.IsNot] [.Constant (.bool true) j p'] p) (TB g X.mg W xi (.not ia)) := PT.by (pt_cmpR op_notT ha pe_bl rfl) fun σ H Q ⟨γ, s, m, hr, sl, h⟩ => by
  simp only [evE] at h
  rw [bindB] at h
  refine TX.go hr sl h fun γ1 m1 d v H1 g1 hr1 sl1 rv h1 => ?_
  cases d with
  | bl b => cases rv; exact ⟨b, true, rfl, rfl, _, rfl, by cases b <;> exact h1 γ1 _ H1 .refl hr1 rfl⟩
  | _ => exact h1.elim
end
end DI
end

section
set_option linter.all false
set_option maxRecDepth 100000
set_option maxHeartbeats 4000000
/-! DI.S21: the checker of texts against the IR. -/
namespace DI
open PySem L2
open PyProof.Rows hiding St
/-- what a checker knows: slots, scope, calls, methods, classes, whether calls are let, whether an error is at hand -/
structure Ck where
  N : List Str
  sc : Scope
  fsh : List (Str × Nat × List Str)
  msh : List (Str × Nat × List Str)
  cls : List Nat
  cm : Bool
  ex : Bool
def glB (k : Ck) (x : Str) : Bool := decide (k.sc.names.lookup x = some .globalImplicit) && !(x == ("__debug__" : Str))
def nmB (k : Ck) (i : Nat) (x : Str) : Bool := decide (k.N[i]? = some x) && (decide (k.sc.names.lookup x = some .local) || decide (k.sc.names.lookup x = some .cell) || decide (k.sc.names.lookup x = some .free)) && !(x == ("__debug__" : Str)) && !(x == ("__classdict__" : Str))
def notSlice : Expr → Bool
  | .Slice _ _ _ _ => false
  | _ => true
def attrB : Expr → Bool
  | .Call (.Name id _) [] [] _ => id != ("super" : Str)
  | _ => true
def tyB (k : Ck) : Ty → Bool
  | .cls c => decide (c ∈ k.cls) && glB k (clsName c)
  | t => glB k (tyNm t)
def notStarE : E → Bool
  | .star _ => false
  | _ => true
/-- items of displays -/
def mL (f : Expr → E → Bool) : List Expr → List E → Bool
  | [], [] => true
  | .Starred a _ :: es, .star ia :: as => f a ia && mL f es as
  | e :: es, a :: as => !isStarX e && notStarE a && f e a && mL f es as
  | _, _ => false
def mK (f : Expr → E → Bool) : List Keyword → List E → Bool
  | [], [] => true
  | ⟨_, e, _⟩ :: es, a :: as => notStarE a && f e a && mK f es as
  | _, _ => false
def mO (f : Expr → E → Bool) : Option Expr → Option E → Bool
  | none, none => true
  | some e, some a => f e a
  | _, _ => false
def mD (f : Expr → E → Bool) : List (Option Expr) → List Expr → List E → Bool
  | [], [], [] => true
  | some k :: ks, v :: vs, a :: b :: es => notStarE a && notStarE b && f k a && f v b && mD f ks vs es
  | _, _, _ => false
def mAnd (f : Expr → E → Bool) : List Expr → E → Bool
  | [x], a => f x a
  | x :: xs, .and a b => f x a && mAnd f xs b
  | _, _ => false
def mOr (f : Expr → E → Bool) : List Expr → E → Bool
  | [x], a => f x a
  | x :: xs, .or a b => f x a && mOr f xs b
  | _, _ => false
def mTys (k : Ck) : List Expr → List Ty → Bool
  | [], [] => true
  | .Name x _ :: es, t :: ts => decide (x = tyNm t) && tyB k t && mTys k es ts
  | _, _ => false
/-- a target: f whether a name may be stored to at a slot -/
def mG (f : Nat → Str → Bool) : Nat → Expr → T → Bool
  | 0, _, _ => false
  | _ + 1, .Name x _, .var i => f i x
  | n + 1, .Tuple es _ _, .tup ts => mGs (mG f n) es ts
  | _, _, _ => false
where mGs (f : Expr → T → Bool) : List Expr → List T → Bool
  | [], [] => true
  | e :: es, t :: ts => !isStarX e && f e t && mGs f es ts
  | _, _ => false
def blkB (N : List Str) (sc scope : Scope) (own : List (Str × Nat)) : Bool :=
  decide (scope.kind = .function) && scope.names.all (fun y => decide (scope.names.lookup y.1 = some y.2)) && own.all (fun p => decide (N[p.2]? = some p.1)) &&
  scope.names.all (fun y => !decide (y.2 = .free) || decide (sc.names.lookup y.1 = some .cell) || decide (sc.names.lookup y.1 = some .free)) &&
  scope.names.all (fun y => !(decide (y.2 = .local) || decide (y.2 = .cell)) || decide (y.1 ∈ own.map (·.1)) || !decide (y.1 ∈ N))
def ownOf (N : List Str) (ss : List Nat) : List (Str × Nat) := ss.map fun i => ((N[i]?).getD "", i)
def Ck.blk (k : Ck) (scope : Scope) : Ck := { k with sc := relS scope k.sc, ex := false }
def testB : Expr → Bool
  | .UnaryOp .Not _ _ => false | .BoolOp _ _ _ => false | .IfExp _ _ _ _ => false | .Compare _ _ _ _ => false
  | _ => true
def notSet : Expr → Bool
  | .Set _ _ _ => false
  | _ => true
/-- a store within a def's scope -/
def locB (k : Ck) (i : Nat) (x : Str) : Bool := decide (k.N[i]? = some x) && decide (k.sc.names.lookup x = some .local)
/-- a store within a def's scope, to a name that a comprehension may share, too -/
def locC (k : Ck) (i : Nat) (x : Str) : Bool := decide (k.N[i]? = some x) && (decide (k.sc.names.lookup x = some .local) || decide (k.sc.names.lookup x = some .cell))
mutual
def mE : Nat → Ck → Expr → E → Bool
  | 0, _, _, _ => false
  | n + 1, k, e, ir => match ir with
    | .con d => (match e, d with
      | .Constant (.int i) _ _, .int j => decide (i = j)
      | .Constant (.bool i) _ _, .bl j => decide (i = j)
      | .Constant (.str i) _ _, .str j => decide (i = j)
      | .Constant .none _ _, .non => true
      | _, _ => false)
    | .var i => (match e with
      | .Name x _ => nmB k i x
      | _ => false)
    | .bin op a b => k.cm && (match e with
      | .BinOp x o y _ => decide (o = bopOf op) && mE n k x a && mE n k y b
      | _ => false)
    | .repr a => (match e with
      | .Call (.Name x _) [y] [] _ => decide (x = "repr") && glB k x && !isStarX' y && mE n k y a
      | _ => false)
    | .eqS a b => (match e with
      | .Compare x [.Eq] [y] _ => !behindInMarks .Eq y && mE n k x a && mE n k y b
      | _ => false)
    | .addI a b => (match e with
      | .BinOp x .Add y _ => mE n k x a && mE n k y b
      | _ => false)
    | .dct es => (match e with
      | .Dict [] [] _ => es.isEmpty
      | .Dict (q :: ks) vs _ => (q :: ks).all (·.isSome) && decide ((q :: ks).length = vs.length) && decide ((q :: ks).length ≤ 15) && mD (mE n k) (q :: ks) vs es
      | _ => false)
    | .neg a => k.cm && (match e with
      | .UnaryOp .USub x _ => mE n k x a
      | _ => false)
    | .not a => (match e with
      | .UnaryOp .Not x _ => mE n k x a
      | .Compare x [.IsNot] [.Constant (.bool true) _ _] _ => mE n k x a
      | _ => false)
    | .and a b => (match e with
      | .BoolOp .And xs _ => mAnd (mE n k) xs (.and a b)
      | _ => false)
    | .or a b => (match e with
      | .BoolOp .Or xs _ => mOr (mE n k) xs (.or a b)
      | _ => false)
    | .cmp op a b => k.cm && (match e with
      | .Compare x [o] [y] _ => decide (o = copOf op) && !behindInMarks (copOf op) y && mE n k x a && mE n k y b
      | _ => false)
    | .cmp2 op q a b c => k.cm && (match e with
      | .Compare x [o, r] [y, z] _ => decide (o = copOf op) && decide (r = copOf q) && !lastMarks [copOf op, copOf q] [y, z] && mE n k x a && mE n k y b && mE n k z c
      | _ => false)
    | .isN ng a => (match e with
      | .Compare x [o] [.Constant .none _ _] _ => decide (o = if ng then .IsNot else .Is) && mE n k x a
      | _ => false)
    | .ite c a b => (match e with
      | .IfExp z x y _ => mT n k z c && mE n k x a && mE n k y b
      | _ => false)
    | .tup as => (match e with
      | .Tuple es _ _ => mL (mE n k) es as
      | _ => false)
    | .lst as => (match e with
      | .List es _ => mL (mE n k) es as
      | _ => false)
    | .lstM as => (match e with
      | .List es _ => mL (mE n k) es as
      | _ => false)
    | .attr a f => (match e with
      | .Attribute x f' _ => decide (f' = f) && attrB x && mE n k x a
      | _ => false)
    | .exA i f => k.ex && (match e with
      | .Attribute (.Name x _) f' _ => decide (f' = f) && nmB k i x
      | _ => false)
    | .idxO i b => k.cm && (match e with
      | .Subscript (.Name x _) y _ => notSlice y && nmB k i x && mE n k y b
      | _ => false)
    | .idx a b => k.cm && (match e with
      | .Subscript x y _ => notSlice y && mE n k x a && mE n k y b
      | _ => false)
    | .slc a lo hi => (match e with
      | .Subscript x (.Slice l h none _) _ => mE n k x a && mO (mE n k) l lo && mO (mE n k) h hi
      | _ => false)
    | .call i as kas => k.cm && (match e with
      | .Call (.Name x _) es kws _ => (match k.fsh[i]? with
        | some (x', n', ks) => decide (x' = x) && decide (n' = as.length) && glB k x && decide (kwNames kws = some ks) && es.all (fun e => !isStarX e) && mL (mE n k) es as && mK (mE n k) kws kas
        | none => false)
      | _ => false)
    | .meth mi nm o as kas => k.cm && (match e with
      | .Call (.Attribute ob nm' apos) es kws p => (match k.msh[mi]? with
        | some (x', n', ks) => decide (x' = nm) && decide (nm' = nm) && decide (n' = as.length) && attrB ob && decide (kwNames kws = some ks) && es.all (fun e => !isStarX e) && decide (es.length + kws.length < 29) && (apos.endLine == p.line) && mE n k ob o && mL (mE n k) es as && mK (mE n k) kws kas
        | none => false)
      | _ => false)
    | .bi b as => k.cm && (match e with
      | .Call (.Name x _) (y :: es) [] _ => decide (x = biName b) && glB k x && (y :: es).all (fun e => !isStarX e) && mL (mE n k) (y :: es) as
      | _ => false)
    | .inst a ts => (match e with
      | .Call (.Name x _) [y, c] [] _ => decide (x = "isinstance") && glB k x && !isStarX y && mE n k y a && (match ts, c with
        | [t], .Name nm _ => decide (nm = tyNm t) && tyB k t
        | ts, .Tuple es _ _ => decide (ts.length ≤ 20) && mTys k es ts
        | _, _ => false)
      | _ => false)
    | .lcomp elt t it cs => k.cm && (match e with
      | .ListComp el [⟨tg, iter, ifs, 0⟩] scope _ => blkB k.N k.sc scope (ownOf k.N t.slots) && notSet iter && mI n k tg iter it && mG (locB (k.blk scope)) n tg t && (match ifs, cs with
        | [], [] => true
        | [z], [c] => mT n (k.blk scope) z c
        | _, _ => false) && mE n (k.blk scope) el elt
      | _ => false)
    | _ => false
def mT : Nat → Ck → Expr → E → Bool
  | 0, _, _, _ => false
  | n + 1, k, e, ir => (testB e && mE n k e ir) || (match ir with
    | .not a => (match e with
      | .UnaryOp .Not x _ => mT n k x a
      | .Compare x [.IsNot] [.Constant (.bool true) _ _] _ => mE n k x a
      | _ => false)
    | .and a b => (match e with
      | .BoolOp .And xs _ => mAnd (mT n k) xs (.and a b)
      | _ => false)
    | .or a b => (match e with
      | .BoolOp .Or xs _ => mOr (mT n k) xs (.or a b)
      | _ => false)
    | .cmp op a b => k.cm && (match e with
      | .Compare x [o] [y] _ => decide (o = copOf op) && !behindInMarks (copOf op) y && mE n k x a && mE n k y b
      | _ => false)
    | .cmp2 op q a b c => k.cm && (match e with
      | .Compare x [o, r] [y, z] _ => decide (o = copOf op) && decide (r = copOf q) && !lastMarks [copOf op, copOf q] [y, z] && mE n k x a && mE n k y b && mE n k z c
      | _ => false)
    | .isN ng a => (match e with
      | .Compare x [o] [.Constant .none _ _] _ => decide (o = if ng then .IsNot else .Is) && mE n k x a
      | _ => false)
    | _ => false)
def mI : Nat → Ck → Expr → Expr → It → Bool
  | 0, _, _, _, _ => false
  | n + 1, k, tg, e, it => match it with
    | .seq a => mE n k e a
    | .rng a => (match e with
      | .Call (.Name x _) [y] [] _ => decide (x = "range") && glB k x && !isStarX y && mE n k y a
      | _ => false)
    | .rng2 a b => (match e with
      | .Call (.Name x _) [y, z] [] _ => decide (x = "range") && glB k x && !isStarX y && !isStarX z && mE n k y a && mE n k z b
      | _ => false)
    | .zip a b => (match e, tg with
      | .Call (.Name x _) [y, z] [] _, .Tuple _ _ _ => decide (x = "zip") && glB k x && !isStarX y && !isStarX z && mE n k y a && mE n k z b
      | _, _ => false)
    | .items a => (match e, tg with
      | .Call (.Attribute o nm apos) [] [] p, .Tuple _ _ _ => decide (nm = "items") && attrB o && (apos.endLine == p.line) && mE n k o a
      | _, _ => false)
    | .vals a => (match e with
      | .Call (.Attribute o nm apos) [] [] p => decide (nm = "values") && attrB o && (apos.endLine == p.line) && mE n k o a
      | _ => false)
    | _ => false
end
end DI
end

section
set_option linter.all false
set_option maxRecDepth 100000
set_option maxHeartbeats 4000000
/-! DI.S22: the checker is sound. -/
namespace DI
open PySem L2
open PyProof.Rows hiding St
/-- what stands around all defs -/
structure EnvB (fsh msh : List (Str × Nat × List Str)) (cls : List Nat) (g : G) (lv : Nat) (P : Program) (w : World) (K : PySem.W.Frag) (mg : Str → Option Value) (base : Heap) : Prop where
  fn : ∀ (i : Nat) (x : Str) (n : Nat) (ks : List Str), fsh[i]? = some (x, n, ks) → ∃ (f : Sem) (u : Value), g.fn[i]? = some f ∧ mg x = some u ∧ PySem.W.keepIn K u = true ∧ RunSh P w K mg base lv u n ks f
  me : ∀ (mi : Nat) (nm : Str) (n : Nat) (ks : List Str), msh[mi]? = some (nm, n, ks) → ∀ (tab : List (Nat × Sem)) (c : Nat) (f : Sem), g.me[mi]? = some tab → tab.lookup c = some f → MethSh P w K mg base lv c nm n ks f
  bi : ∀ b, mg (biName b) = none
  rng : mg "range" = none
  zp : mg "zip" = none
  ins : mg "isinstance" = none
  ty : ∀ t : Ty, (∀ c, t ≠ .cls c) → mg (tyNm t) = none
  cl : ∀ c ∈ cls, ∃ C, mg (clsName c) = some (.ref C)
structure Sok (k : Ck) (g : G) (lv : Nat) (X : Cx) (W : WX) (xi : XI) : Prop where
  hN : X.N = k.N
  hsc : X.env.scope = k.sc
  nd : k.N.Nodup
  calm : k.cm = true → X.calm = true
  room : k.cm = true → Room (lv + 9) X.A
  tk : Takes X W
  gq : X.A.guards = some [] ∧ X.A.units + 12 < cLine
  o : Ok0 g lv X.prog X.w X.K X.mg X.base
  env : EnvB k.fsh k.msh k.cls g lv X.prog X.w X.K X.mg X.base
  xa : k.ex = true → ∀ (i : Nat) (x f : Str) (p p' : Pos), X.N[i]? = some x → Vis X.env.scope x → (x == ("__debug__" : Str)) = false → (x == ("__classdict__" : Str)) = false → PE X (.Attribute (.Name x p') f p) (TX g X.mg W xi (.exA i f))
section
variable {X : Cx} {g : G} {W : WX} {xi : XI} {lv : Nat} {k : Ck}
theorem Sok.gl (S : Sok k g lv X W xi) {x : Str} (h : glB k x = true) : Gl X x ∧ (x == ("__debug__" : Str)) = false := by
  unfold glB at h
  rw [Bool.and_eq_true, decide_eq_true_eq] at h
  refine ⟨?_, by simpa using h.2⟩
  show X.env.kindOf x = _
  unfold Env.kindOf
  rw [S.hsc]
  exact h.1
theorem Sok.nm (S : Sok k g lv X W xi) {i : Nat} {x : Str} (h : nmB k i x = true) : X.N[i]? = some x ∧ Vis X.env.scope x ∧ (x == ("__debug__" : Str)) = false ∧ (x == ("__classdict__" : Str)) = false := by
  unfold nmB at h
  simp only [Bool.and_eq_true, Bool.or_eq_true, decide_eq_true_eq, Bool.not_eq_true'] at h
  obtain ⟨⟨⟨h1, h2⟩, h3⟩, h4⟩ := h
  refine ⟨by rw [S.hN]; exact h1, ?_, h3, h4⟩
  unfold Vis
  rw [S.hsc]
  rcases h2 with (h2 | h2) | h2
  · exact .inl h2
  · exact .inr (.inl h2)
  · exact .inr (.inr h2)
theorem notStarE_ok {a : E} (h : notStarE a = true) : ∀ x m, splD a x m = some [x] := by
  cases a <;> first | exact fun _ _ => rfl | cases h
theorem mL_ok {f : Expr → E → Bool} (hf : ∀ e ir, f e ir = true → PE X e (TX g X.mg W xi ir)) : ∀ {es : List Expr} {as : List E}, mL f es as = true → PA X es (TXs g X.mg W xi as)
  | [], [], _ => n_as_nil
  | [], a :: as, h => by cases h
  | e :: es, [], h => by cases e <;> cases h
  | e :: es, a :: as, h => by
    unfold mL at h
    split at h
    · rename_i h1 _; cases h1
    · rename_i h1 h2
      cases h1
      cases h2
      rw [Bool.and_eq_true] at h
      exact n_as_star (hf _ _ h.1) (mL_ok hf h.2)
    · rename_i h1 h2
      cases h1
      cases h2
      simp only [Bool.and_eq_true, Bool.not_eq_true'] at h
      exact n_as_cons (hf _ _ h.1.2) (mL_ok hf h.2) (notStarE_ok h.1.1.2) (starEach_cons h.1.1.1)
    · cases h
theorem mK_ok {f : Expr → E → Bool} (hf : ∀ e ir, f e ir = true → PE X e (TX g X.mg W xi ir)) : ∀ {es : List Keyword} {as : List E}, mK f es as = true → PK X es (TXs g X.mg W xi as)
  | [], [], _ => k_nil
  | [], a :: as, h => by cases h
  | ⟨_, _, _⟩ :: es, [], h => by cases h
  | ⟨_, e, _⟩ :: es, a :: as, h => by
    simp only [mK, Bool.and_eq_true] at h
    exact k_cons (hf _ _ h.1.2) (mK_ok hf h.2) (notStarE_ok h.1.1)
theorem mK_len {f : Expr → E → Bool} : ∀ {es : List Keyword} {as : List E} {ks : List Str}, mK f es as = true → kwNames es = some ks → as.length = ks.length
  | [], [], ks, _, h => by cases h; rfl
  | [], a :: as, _, h, _ => by cases h
  | ⟨_, _, _⟩ :: es, [], _, h, _ => by cases h
  | ⟨some x, e, _⟩ :: es, a :: as, ks, h, hk => by
    simp only [mK, Bool.and_eq_true] at h
    simp only [kwNames] at hk
    cases q : kwNames es with
    | none => rw [q] at hk; cases hk
    | some l => rw [q] at hk; cases hk; simp [mK_len h.2 q]
  | ⟨none, e, _⟩ :: es, a :: as, ks, h, hk => by cases hk
theorem mO_ok {f : Expr → E → Bool} (hf : ∀ e ir, f e ir = true → PE X e (TX g X.mg W xi ir)) : ∀ {e : Option Expr} {a : Option E}, mO f e a = true → PO X e (fun σ H Q => ∃ γ s m, HR X.mg γ m H ∧ SlR X.mg xi γ H σ s ∧ Post (fun _ (b c : Option Int) => b = c) X.mg (fun c d H' => W c d σ H') γ H (evO g a s m) Q)
  | none, none, _ => po_none'
  | some e, some a, h => po_some' (hf _ _ h)
  | none, some a, h => by cases h
  | some e, none, h => by cases h
theorem mD_ok {f : Expr → E → Bool} (hf : ∀ e ir, f e ir = true → PE X e (TX g X.mg W xi ir)) {p : Pos} : ∀ {ks : List (Option Expr)} {vs : List Expr} {es : List E}, mD f ks vs es = true → ∃ pl : List (E × E), es = flatP pl ∧ PPs X p ks vs (pl.map fun q => (TX g X.mg W xi q.1, TX g X.mg W xi q.2)) ∧ ∀ p ∈ pl, (∀ x m, splD p.1 x m = some [x]) ∧ ∀ x m, splD p.2 x m = some [x]
  | [], [], [], _ => ⟨[], rfl, pps_nil, by simp⟩
  | some k :: ks, v :: vs, a :: b :: es, h => by
    simp only [mD, Bool.and_eq_true] at h
    obtain ⟨⟨⟨⟨h1, h2⟩, h3⟩, h4⟩, h5⟩ := h
    obtain ⟨pl, e, hp, hn⟩ := mD_ok hf h5
    refine ⟨(a, b) :: pl, by rw [e]; rfl, pps_cons (hf _ _ h3) (hf _ _ h4) hp, fun q hq => ?_⟩
    rcases List.mem_cons.mp hq with z | z
    · rw [z]; exact ⟨notStarE_ok h1, notStarE_ok h2⟩
    · exact hn q z
  | [], [], _ :: _, h => by cases h
  | [], _ :: _, _, h => by cases h
  | none :: _, _, _, h => by cases h
  | some _ :: _, [], _, h => by cases h
  | some _ :: _, _ :: _, [], h => by cases h
  | some _ :: _, _ :: _, [_], h => by cases h
theorem mAnd_ok {f : Expr → E → Bool} (hf : ∀ e ir, f e ir = true → PE X e (TX g X.mg W xi ir)) {p : Pos} : ∀ {es : List Expr} {a : E}, mAnd f es a = true → PE X (.BoolOp .And es p) (TX g X.mg W xi a)
  | [], a, h => by cases a <;> cases h
  | [x], a, h => pe_one (hf _ _ (by cases a <;> exact h))
  | x :: y :: r, a, h => by
    cases a with
    | and b c =>
      simp only [mAnd, Bool.and_eq_true] at h
      exact n_and (hf _ _ h.1) (mAnd_ok hf h.2)
    | _ => cases h
theorem mOr_ok {f : Expr → E → Bool} (hf : ∀ e ir, f e ir = true → PE X e (TX g X.mg W xi ir)) {p : Pos} : ∀ {es : List Expr} {a : E}, mOr f es a = true → PE X (.BoolOp .Or es p) (TX g X.mg W xi a)
  | [], a, h => by cases a <;> cases h
  | [x], a, h => pe_one (hf _ _ (by cases a <;> exact h))
  | x :: y :: r, a, h => by
    cases a with
    | or b c =>
      simp only [mOr, Bool.and_eq_true] at h
      exact n_or (hf _ _ h.1) (mOr_ok hf h.2)
    | _ => cases h
theorem mAndT_ok {f : Expr → E → Bool} (hf : ∀ e ir, f e ir = true → PT X e (TB g X.mg W xi ir)) {p : Pos} : ∀ {es : List Expr} {a : E}, mAnd f es a = true → PW X (.BoolOp .And es p) (TB g X.mg W xi a)
  | [], a, h => by cases a <;> cases h
  | [x], a, h => pw_and1 (hf _ _ (by cases a <;> exact h))
  | x :: y :: r, a, h => by
    cases a with
    | and b c =>
      simp only [mAnd, Bool.and_eq_true] at h
      exact w_and (hf _ _ h.1) (mAndT_ok hf h.2)
    | _ => cases h
theorem mOrT_ok {f : Expr → E → Bool} (hf : ∀ e ir, f e ir = true → PT X e (TB g X.mg W xi ir)) {p : Pos} : ∀ {es : List Expr} {a : E}, mOr f es a = true → PW X (.BoolOp .Or es p) (TB g X.mg W xi a)
  | [], a, h => by cases a <;> cases h
  | [x], a, h => pw_or1 (hf _ _ (by cases a <;> exact h))
  | x :: y :: r, a, h => by
    cases a with
    | or b c =>
      simp only [mOr, Bool.and_eq_true] at h
      exact w_or (hf _ _ h.1) (mOrT_ok hf h.2)
    | _ => cases h
theorem Sok.ty (S : Sok k g lv X W xi) {t : Ty} (h : tyB k t = true) : TyOk X t := by
  cases t with
  | cls c =>
    simp only [tyB, Bool.and_eq_true, decide_eq_true_eq] at h
    obtain ⟨h1, h2⟩ := S.gl h.2
    exact ⟨h1, S.env.cl c h.1, h2⟩
  | _ =>
    obtain ⟨h1, h2⟩ := S.gl h
    exact ⟨h1, S.env.ty _ (fun _ z => nomatch z), h2⟩
theorem mTys_ok (S : Sok k g lv X W xi) : ∀ {es : List Expr} {ts : List Ty}, mTys k es ts = true → ∃ ps : List Pos, ts.length = ps.length ∧ (∀ t ∈ ts, TyOk X t) ∧ es = (ts.zip ps).map fun tp => .Name (tyNm tp.1) tp.2
  | [], [], _ => ⟨[], rfl, by simp, rfl⟩
  | [], t :: ts, h => by cases h
  | e :: es, [], h => by cases e <;> cases h
  | e :: es, t :: ts, h => by
    cases e with
    | Name x p =>
      simp only [mTys, Bool.and_eq_true, decide_eq_true_eq] at h
      obtain ⟨ps, h1, h2, h3⟩ := mTys_ok S h.2
      refine ⟨p :: ps, by simp [h1], fun t' ht => ?_, by rw [h.1.1, h3]; rfl⟩
      rcases List.mem_cons.mp ht with z | z
      · rw [z]; exact S.ty h.1.2
      · exact h2 t' z
    | _ => cases h
theorem mG_ok {f : Nat → Str → Bool} (hc : X.calm = true) (hf : ∀ i x p, f i x = true → PG X (.Name x p) (gT X.mg xi (.var i))) : ∀ (n : Nat) {e : Expr} {t : T}, mG f n e t = true → PG X e (gT X.mg xi t)
  | 0, _, _, h => by cases h
  | n + 1, e, t, h => by
    cases e with
    | Name x p =>
      cases t with
      | var i => exact hf _ _ _ h
      | tup _ => cases h
    | Tuple es kk p =>
      cases t with
      | var i => cases h
      | tup ts =>
        have hs : ∀ {es : List Expr} {ts : List T}, mG.mGs (mG f n) es ts = true → PGs X es (gTs X.mg xi ts) ∧ (assignEach es X.env).length = ts.length ∧ (assignEach es X.env).findIdx? (·.1) = none := fun {es} => by
          induction es with
          | nil =>
            intro ts h
            cases ts with
            | nil => exact ⟨gs_nil, rfl, rfl⟩
            | cons _ _ => cases h
          | cons e es ih =>
            intro ts h
            cases ts with
            | nil => cases h
            | cons t ts =>
              simp only [mG.mGs, Bool.and_eq_true, Bool.not_eq_true'] at h
              obtain ⟨h1, h2, h3⟩ := ih h.2
              have ea : assignEach (e :: es) X.env = (false, assign e X.env) :: assignEach es X.env := by
                have hn := h.1.1
                cases e <;> first | rfl | cases hn
              refine ⟨gs_cons (mG_ok hc hf n h.1.2) h1 (by rw [ea]; rfl), by rw [ea, List.length_cons, List.length_cons, h2], ?_⟩
              rw [ea, List.findIdx?_cons]
              simp only [Bool.false_eq_true, if_false, h3]
              rfl
        obtain ⟨h1, h2, h3⟩ := hs h
        exact g_tup hc h1 h2 h3
    | _ => cases t <;> cases h
theorem blkB_ok {N : List Str} {sc scope : Scope} {own : List (Str × Nat)} (h : blkB N sc scope own = true) : BlkOk N sc scope own := by
  unfold blkB at h
  simp only [Bool.and_eq_true, decide_eq_true_eq, List.all_eq_true, Bool.or_eq_true, Bool.not_eq_true', decide_eq_false_iff_not] at h
  obtain ⟨⟨⟨⟨h1, h2⟩, h3⟩, h4⟩, h5⟩ := h
  refine ⟨h1, fun y hy => h2 y hy, fun p hp => h3 p hp, fun y hy e => ?_, fun y hy e => ?_⟩
  · rcases h4 y hy with (z | z) | z
    · exact absurd e z
    · exact .inl z
    · exact .inr z
  · rcases h5 y hy with (z | z) | z
    · rcases e with e | e
      · simp [e] at z
      · simp [e] at z
    · exact .inl z
    · exact .inr z
theorem Sok.blk (S : Sok k g lv X W xi) (s : Shared) (H : Hp) (scope : Scope) (cl : List (Str × Addr)) (C : Addr) (fp : List Addr) : Sok (k.blk scope) g lv (X.blk s H scope (compEnvC scope cl C X.env) fp) WF xi :=
  ⟨S.hN, by show relS scope X.env.scope = relS scope k.sc; rw [S.hsc], S.nd, S.calm, S.room, fun u s' ⟨_, _, _, _, _, _, _, _, _, _, _, _, _, _, _, _, w⟩ => w.elim, S.gq, S.o, S.env, fun h => by cases h⟩
theorem notSet_ok {e : Expr} (h : notSet e = true) {env : Env} : ∀ x, foldedSetIterable e env x = pure x := by
  cases e <;> first | exact fun _ => rfl | cases h
theorem plainIx_of {e : Expr} (h : notSlice e = true) : PlainIx e := by
  cases e <;> first | exact fun _ _ => rfl | cases h
theorem test_of {e : Expr} (h : testB e = true) {env : Env} : ∀ whole, isTrue e env whole = (do let v ← whole; standAt e.pos; holding [v] (truthy v)) := by
  cases e with
  | UnaryOp op x p => cases op <;> first | exact fun _ => rfl | cases h
  | BoolOp _ _ _ => cases h
  | IfExp _ _ _ _ => cases h
  | Compare _ _ _ _ => cases h
  | _ => exact fun _ => rfl
theorem attr_of' {o : Expr} {f : Str} {env : Env} (h : attrB o = true) : attributeBase o f env (eval o env) = eval o env := by
  refine attr_plain ?_
  unfold attrB at h
  exact h
theorem Sok.room0 (S : Sok k g lv X W xi) (h : k.cm = true) : Room lv X.A := (S.room h).mono (by omega)
theorem Sok.room8 (S : Sok k g lv X W xi) (h : k.cm = true) : Room (lv + 8) X.A := (S.room h).mono (by omega)
theorem Sok.hu (S : Sok k g lv X W xi) (h : k.cm = true) : X.A.units + 1 < cLine := hu_of (S.room8 h).toRoom
/-- what the checker shows at one fuel -/
structure Snd (g : G) (lv : Nat) (n : Nat) : Prop where
  e : ∀ {k X W xi e ir}, Sok k g lv X W xi → mE n k e ir = true → PE X e (TX g X.mg W xi ir)
  t : ∀ {k X W xi e ir}, Sok k g lv X W xi → mT n k e ir = true → PT X e (TB g X.mg W xi ir)
  i : ∀ {k X W xi tg e it}, Sok k g lv X W xi → mI n k tg e it = true → PI X tg e (TIt g X.mg W xi it)
theorem snd_e {n : Nat} (I : Snd g lv n) {e : Expr} {ir : E} (S : Sok k g lv X W xi) (h : mE (n + 1) k e ir = true) : PE X e (TX g X.mg W xi ir) := by
  have ie : ∀ e ir, mE n k e ir = true → PE X e (TX g X.mg W xi ir) := fun e ir h => I.e S h
  unfold mE at h
  cases ir with
  | con d =>
    dsimp only at h
    split at h
    · rw [decide_eq_true_eq] at h; subst h; exact n_con_int
    · rw [decide_eq_true_eq] at h; subst h; exact n_con_bl
    · rw [decide_eq_true_eq] at h; subst h; exact n_con_str
    · exact n_con_non
    · cases h
  | var i =>
    dsimp only at h
    split at h
    · obtain ⟨h1, h2, h3, h4⟩ := S.nm h
      exact n_var h1 h2 h3 h4
    · cases h
  | bin op a b =>
    simp only [Bool.and_eq_true] at h
    obtain ⟨hc, h⟩ := h
    split at h
    · simp only [Bool.and_eq_true, decide_eq_true_eq] at h
      obtain ⟨⟨rfl, h1⟩, h2⟩ := h
      exact n_bin S.o (S.room0 hc) S.tk (ie _ _ h1) (ie _ _ h2)
    · cases h
  | repr a =>
    dsimp only at h
    split at h
    · simp only [Bool.and_eq_true, decide_eq_true_eq, Bool.not_eq_true'] at h
      obtain ⟨⟨⟨rfl, h1⟩, h2⟩, h3⟩ := h
      exact n_repr S.gq.1 S.gq.2 (S.gl h1).1 (S.env.bi .repr) h2 (ie _ _ h3)
    · cases h
  | eqS a b =>
    dsimp only at h
    split at h
    · simp only [Bool.and_eq_true, Bool.not_eq_true'] at h
      exact n_eqS (ie _ _ h.1.2) (ie _ _ h.2) h.1.1
    · cases h
  | addI a b =>
    dsimp only at h
    split at h
    · simp only [Bool.and_eq_true] at h
      exact n_addI (ie _ _ h.1) (ie _ _ h.2)
    · cases h
  | dct es =>
    dsimp only at h
    split at h
    · cases es with
      | nil => exact n_dct0
      | cons _ _ => cases h
    · simp only [Bool.and_eq_true, decide_eq_true_eq] at h
      obtain ⟨⟨⟨h1, h2⟩, h3⟩, h4⟩ := h
      obtain ⟨pl, e, hp, hn⟩ := mD_ok ie h4
      subst e
      exact n_dct hp hn h1 h2 (by simp) h3
    · cases h
  | neg a =>
    simp only [Bool.and_eq_true] at h
    obtain ⟨hc, h⟩ := h
    split at h
    · exact n_neg S.o (S.room0 hc) S.tk (ie _ _ h)
    · cases h
  | not a =>
    dsimp only at h
    split at h
    · exact n_not (ie _ _ h)
    · exact n_notT (ie _ _ h)
    · cases h
  | and a b =>
    dsimp only at h
    split at h
    · exact mAnd_ok ie h
    · cases h
  | or a b =>
    dsimp only at h
    split at h
    · exact mOr_ok ie h
    · cases h
  | cmp op a b =>
    simp only [Bool.and_eq_true] at h
    obtain ⟨hc, h⟩ := h
    split at h
    · simp only [Bool.and_eq_true, decide_eq_true_eq, Bool.not_eq_true'] at h
      obtain ⟨⟨⟨rfl, h0⟩, h1⟩, h2⟩ := h
      exact n_cmp S.o (S.room8 hc) S.tk (ie _ _ h1) (ie _ _ h2) h0
    · cases h
  | cmp2 op q a b c =>
    simp only [Bool.and_eq_true] at h
    obtain ⟨hc, h⟩ := h
    split at h
    · simp only [Bool.and_eq_true, decide_eq_true_eq, Bool.not_eq_true'] at h
      obtain ⟨⟨⟨⟨⟨rfl, rfl⟩, h0⟩, h1⟩, h2⟩, h3⟩ := h
      exact n_cmp2 S.o (S.room8 hc) S.tk (ie _ _ h1) (ie _ _ h2) (ie _ _ h3) h0
    · cases h
  | isN ng a =>
    dsimp only at h
    split at h
    · simp only [Bool.and_eq_true, decide_eq_true_eq] at h
      obtain ⟨rfl, h1⟩ := h
      cases ng with
      | true => exact n_notN (ie _ _ h1)
      | false => exact n_isN (ie _ _ h1)
    · cases h
  | ite c a b =>
    dsimp only at h
    split at h
    · simp only [Bool.and_eq_true] at h
      exact n_ite (I.t S h.1.1) (ie _ _ h.1.2) (ie _ _ h.2)
    · cases h
  | tup as =>
    dsimp only at h
    split at h
    · exact n_tup (mL_ok ie h)
    · cases h
  | lst as =>
    dsimp only at h
    split at h
    · exact n_lst (mL_ok ie h)
    · cases h
  | lstM as =>
    dsimp only at h
    split at h
    · exact n_lstM (mL_ok ie h)
    · cases h
  | attr a f =>
    dsimp only at h
    split at h
    · simp only [Bool.and_eq_true, decide_eq_true_eq] at h
      obtain ⟨⟨rfl, h0⟩, h1⟩ := h
      exact n_attr S.o (ie _ _ h1) (attr_of' h0)
    · cases h
  | exA i f =>
    simp only [Bool.and_eq_true] at h
    obtain ⟨hc, h⟩ := h
    split at h
    · simp only [Bool.and_eq_true, decide_eq_true_eq] at h
      obtain ⟨rfl, h1⟩ := h
      obtain ⟨k1, k2, k3, k4⟩ := S.nm h1
      exact S.xa hc _ _ _ _ _ k1 k2 k3 k4
    · cases h
  | idxO i b =>
    simp only [Bool.and_eq_true] at h
    obtain ⟨hc, h⟩ := h
    split at h
    · simp only [Bool.and_eq_true] at h
      obtain ⟨k1, k2, k3, k4⟩ := S.nm h.1.2
      exact n_idxO k1 k2 k3 k4 (ie _ _ h.2) (plainIx_of h.1.1)
    · cases h
  | idx a b =>
    simp only [Bool.and_eq_true] at h
    obtain ⟨hc, h⟩ := h
    split at h
    · simp only [Bool.and_eq_true] at h
      exact n_idx (S.hu hc) (ie _ _ h.1.2) (ie _ _ h.2) (plainIx_of h.1.1)
    · cases h
  | slc a lo hi =>
    dsimp only at h
    split at h
    · simp only [Bool.and_eq_true] at h
      exact n_slc (ie _ _ h.1.1) (mO_ok ie h.1.2) (mO_ok ie h.2)
    · cases h
  | call i as kas =>
    simp only [Bool.and_eq_true] at h
    obtain ⟨hc, h⟩ := h
    split at h
    · split at h
      · rename_i q
        simp only [Bool.and_eq_true, decide_eq_true_eq] at h
        obtain ⟨⟨⟨⟨⟨⟨rfl, rfl⟩, h1⟩, h2⟩, h3⟩, h4⟩, h5⟩ := h
        obtain ⟨f, u, q1, q2, q3, q4⟩ := S.env.fn _ _ _ _ q
        obtain ⟨g1, g2⟩ := S.gl h1
        refine n_call ⟨g1, g2, u, q2, q3, q4⟩ q1 (S.room0 hc) S.tk (fun e => ?_) h3 h2 (mK_len h5 h2) (mL_ok ie h4) (mK_ok ie h5)
        subst e
        cases as with
        | nil => rfl
        | cons _ _ => cases h4
      · cases h
    · cases h
  | meth mi nm ob as kas =>
    simp only [Bool.and_eq_true] at h
    obtain ⟨hc, h⟩ := h
    split at h
    · split at h
      · rename_i q
        simp only [Bool.and_eq_true, decide_eq_true_eq] at h
        obtain ⟨⟨⟨⟨⟨⟨⟨⟨⟨⟨rfl, rfl⟩, rfl⟩, h1⟩, h2⟩, h3⟩, h4⟩, h5⟩, h6⟩, h7⟩, h8⟩ := h
        refine n_meth S.o (fun tab c f e1 e2 => S.env.me _ _ _ _ q tab c f e1 e2) (attr_of' h1) (S.room0 hc) S.tk (fun e => ?_) h3 h2 (mK_len h8 h2) h4 h5 (ie _ _ h6) (mL_ok ie h7) (mK_ok ie h8)
        subst e
        cases as with
        | nil => rfl
        | cons _ _ => cases h7
      · cases h
    · cases h
  | bi b as =>
    simp only [Bool.and_eq_true] at h
    obtain ⟨hc, h⟩ := h
    split at h
    · simp only [Bool.and_eq_true, decide_eq_true_eq] at h
      obtain ⟨⟨⟨rfl, h1⟩, h2⟩, h3⟩ := h
      have h2' := h2
      rw [List.all_cons, Bool.and_eq_true] at h2'
      exact n_bi (S.calm hc) (S.gl h1).1 (S.env.bi b) (mL_ok ie h3) (starEach_cons (by simpa using h2'.1)) (backTo_any _ _ _ h2'.2)
    · cases h
  | inst a ts =>
    dsimp only at h
    split at h
    · simp only [Bool.and_eq_true, decide_eq_true_eq, Bool.not_eq_true'] at h
      obtain ⟨⟨⟨⟨rfl, h1⟩, h2⟩, h3⟩, h4⟩ := h
      split at h4
      · simp only [Bool.and_eq_true, decide_eq_true_eq] at h4
        obtain ⟨rfl, h5⟩ := h4
        exact n_inst1 S.o (S.gl h1).1 S.env.ins (S.ty h5) (ie _ _ h3) (starEach_cons h2)
      · simp only [Bool.and_eq_true, decide_eq_true_eq] at h4
        obtain ⟨ps, k1, k2, k3⟩ := mTys_ok S h4.2
        subst k3
        exact n_inst S.o k1 h4.1 (S.gl h1).1 S.env.ins k2 (ie _ _ h3) (starEach_cons h2)
      · cases h4
    · cases h
  | lcomp elt t it cs =>
    simp only [Bool.and_eq_true] at h
    obtain ⟨hc, h⟩ := h
    split at h
    · rename_i el tg iter ifs scope pp
      simp only [Bool.and_eq_true] at h
      obtain ⟨⟨⟨⟨⟨h1, h2⟩, h3⟩, h4⟩, h5⟩, h6⟩ := h
      have ok := blkB_ok h1
      refine n_lc (S.calm hc) (by rw [S.hN]; exact S.nd) (I.i S h3) (by rw [S.hN, S.hsc]; exact ok) ?_ (fun s H C cl fp => mG_ok (X := X.blk s H scope (compEnvC scope cl C X.env) fp) (S.calm hc) (fun i x p hl => ?_) n h4) (fun s H C cl fp => ?_) (fun s H C cl fp => I.e (S.blk s H scope cl C fp) h6) (notSet_ok h2)
      · unfold ownOf
        rw [List.map_map]
        exact List.map_id _
      · simp only [locB, Bool.and_eq_true, decide_eq_true_eq] at hl
        have e1 : (X.blk s H scope (compEnvC scope cl C X.env) fp).env.scope = (k.blk scope).sc := (S.blk s H scope cl C fp).hsc
        exact g_var (X := X.blk s H scope (compEnvC scope cl C X.env) fp) (by show X.N.Nodup; rw [S.hN]; exact S.nd) (by show X.N[i]? = _; rw [S.hN]; exact hl.1) (.inl (by rw [e1]; exact hl.2)) (.inr (by rw [e1]; exact hl.2))
      · split at h5
        · exact c_nil
        · exact c_one (I.t (S.blk s H scope cl C fp) h5)
        · cases h5
    · cases h
  | _ => cases h
end
end DI
end

section
set_option linter.all false
set_option maxRecDepth 100000
set_option maxHeartbeats 4000000
/-! DI.S23a: cells are changed. -/
namespace DI
open PySem L2
open PyProof.Rows hiding St
section
variable {X : Cx} {g : G} {W : WX} {xi : XI} {lv : Nat} {k : Ck}
theorem StR.setC {mg : Str → Option Value} {γ0 γ : Gh} {H0 H : Hp} {σ : L2.St} {s : Sl} {m : MS} {i : Nat} {a : Addr} {c : MC} {o : HO} (st : StR mg xi γ0 H0 γ H σ s m) (ha : γ.as[i]? = some a) (hi : i < m.length) (hc : ∀ H', H' a = some o → COk mg γ H' a c) : StR mg xi γ0 H0 γ (upd H a o) σ s (m.set i c) := by
  obtain ⟨h1, h2⟩ := st.hr.set ha hc hi
  exact st.grow h2 h1
theorem TX.stg {mg : Str → Option Value} {γ0 γ : Gh} {H0 H : Hp} {σ : L2.St} {s : Sl} {m : MS} {En : Ends} {e : E} {F : D → MS → Out} (st : StR mg xi γ0 H0 γ H σ s m) (h : PoS mg xi γ0 H0 W En ((evE g e s m).out s F)) {P : VK} (k : ∀ γ1 m1 d v H1, Grow γ H γ1 H1 → StR mg xi γ0 H0 γ1 H1 σ s m1 → RV γ1 v d → PoS mg xi γ0 H0 W En (F d m1) → P v H1) : TX g mg W xi e σ H P := by
  refine ⟨γ, s, m, st.hr, st.sl, ?_⟩
  cases q : evE g e s m with
  | ok d m1 => rw [q] at h; exact fun γ' v H' gg hr rv => k γ' m1 d v H' gg (st.grow gg hr) rv h
  | exc x m1 => rw [q] at h; exact fun γ' H' c d gg hr ex => h γ' σ H' c d (st.grow gg hr) ex
  | stuck => rw [q] at h; exact h.elim
theorem rvs_set {γ : Gh} {vs : List V} {ds : List D} {v : V} {d : D} (r : RVs γ vs ds) (rv : RV γ v d) (j : Nat) : RVs γ (vs.set j v) (ds.set j d) := by
  induction r generalizing j with
  | nil => exact .nil
  | cons h t ih =>
    cases j with
    | zero => exact .cons rv t
    | succ j => exact .cons h (ih j)
theorem s_setR {e o i : Expr} {ie io ii : E} {q p : Pos} (he : PE X e (TX g X.mg W xi ie)) (ho : PE X o (TX g X.mg W xi io)) (hi : PE X i (TX g X.mg W xi ii)) (hp : plainV e = true) (hns : notSlice i = true) :
    PS X (.Assign [.Subscript o i q] e p) (TS1 g X.mg W xi (.setR io ii ie)) := by
  have hg := pg_sub (pos := q) ho hi (set_list (X := X)) (by intro v; cases i <;> first | rfl | cases hns)
  refine PS.by (ps_asg he hg (by unfold swapsWithSole; exact swaps_plain hp) (by rfl) (by rfl)) fun D σ H ⟨γ0, H0, γ, s, m, st, h⟩ => ?_
  simp only [evS] at h
  refine TX.stg st h fun γ1 m1 d v H1 g1 st1 rv h1 => ?_
  refine TX.stg st1 h1 fun γ2 m2 x w H2 g2 st2 rw' h2 => ?_
  refine TX.stg st2 h2 fun γ3 m3 y u H3 g3 st3 ru h3 => ?_
  have rv3 := (rv.mono g2).mono g3
  have rw3 := rw'.mono g3
  unfold cellS at h3
  split at h3
  · rename_i j
    split at h3
    · rename_i c hc
      obtain ⟨a, rfl, ha, co⟩ := st3.hr.cell hc rw3
      split at h3
      · rename_i c' hc'
        have hc' : setL c y d = some c' := hc'
        unfold setL at hc'
        split at hc'
        · rename_i xs i _
          cases hi' : ixN xs.length i with
          | none => rw [hi'] at hc'; cases hc'
          | some n =>
            rw [hi'] at hc'
            cases hc'
            obtain ⟨vs, q1, q2⟩ := co
            cases ru
            refine ⟨a, vs, i, n, rfl, rfl, q1, by rw [q2.length]; exact hi', h3 γ3 σ _ (st3.setC ha (List.getElem?_eq_some_iff.mp hc).1 fun H' hH => ⟨_, hH, rvs_set q2 rv3 n⟩)⟩
        · cases hc'
      · exact h3.elim
    · exact h3.elim
  · exact h3.elim
end
end DI
end

section
set_option linter.all false
set_option maxRecDepth 100000
set_option maxHeartbeats 4000000
/-! DI.S23: the checker of expressions is sound; statements. -/
namespace DI
open PySem L2
open PyProof.Rows hiding St
section
variable {X : Cx} {g : G} {W : WX} {xi : XI} {lv : Nat} {k : Ck}
theorem snd_t {n : Nat} (I : Snd g lv n) {e : Expr} {ir : E} (S : Sok k g lv X W xi) (h : mT (n + 1) k e ir = true) : PT X e (TB g X.mg W xi ir) := by
  have ie : ∀ e ir, mE n k e ir = true → PE X e (TX g X.mg W xi ir) := fun e ir h => I.e S h
  have it : ∀ e ir, mT n k e ir = true → PT X e (TB g X.mg W xi ir) := fun e ir h => I.t S h
  unfold mT at h
  rw [Bool.or_eq_true] at h
  rcases h with h | h
  · rw [Bool.and_eq_true] at h
    exact t_val (ie _ _ h.2) (test_of h.1)
  cases ir with
  | not a =>
    dsimp only at h
    split at h
    · exact t_not (it _ _ h)
    · exact t_notT (ie _ _ h)
    · cases h
  | and a b =>
    dsimp only at h
    split at h
    · exact PT.of_w (mAndT_ok it h)
    · cases h
  | or a b =>
    dsimp only at h
    split at h
    · exact PT.of_w (mOrT_ok it h)
    · cases h
  | cmp op a b =>
    simp only [Bool.and_eq_true] at h
    obtain ⟨hc, h⟩ := h
    split at h
    · simp only [Bool.and_eq_true, decide_eq_true_eq, Bool.not_eq_true'] at h
      obtain ⟨⟨⟨rfl, h0⟩, h1⟩, h2⟩ := h
      exact t_cmp S.o (S.room8 hc) S.tk (ie _ _ h1) (ie _ _ h2) h0
    · cases h
  | cmp2 op q a b c =>
    simp only [Bool.and_eq_true] at h
    obtain ⟨hc, h⟩ := h
    split at h
    · simp only [Bool.and_eq_true, decide_eq_true_eq, Bool.not_eq_true'] at h
      obtain ⟨⟨⟨⟨⟨rfl, rfl⟩, h0⟩, h1⟩, h2⟩, h3⟩ := h
      exact t_cmp2 S.o (S.room8 hc) S.tk (ie _ _ h1) (ie _ _ h2) (ie _ _ h3) h0
    · cases h
  | isN ng a =>
    dsimp only at h
    split at h
    · simp only [Bool.and_eq_true, decide_eq_true_eq] at h
      obtain ⟨rfl, h1⟩ := h
      cases ng with
      | true => exact t_notN (ie _ _ h1)
      | false => exact t_isN (ie _ _ h1)
    · cases h
  | _ => cases h
theorem snd_i {n : Nat} (I : Snd g lv n) {tg e : Expr} {it : It} (S : Sok k g lv X W xi) (h : mI (n + 1) k tg e it = true) : PI X tg e (TIt g X.mg W xi it) := by
  have ie : ∀ e ir, mE n k e ir = true → PE X e (TX g X.mg W xi ir) := fun e ir h => I.e S h
  unfold mI at h
  cases it with
  | seq a => exact i_seq (ie _ _ h)
  | rng a =>
    dsimp only at h
    split at h
    · simp only [Bool.and_eq_true, decide_eq_true_eq, Bool.not_eq_true'] at h
      obtain ⟨⟨⟨rfl, h1⟩, h2⟩, h3⟩ := h
      exact i_rng (S.gl h1).1 S.env.rng h2 (ie _ _ h3)
    · cases h
  | rng2 a b =>
    dsimp only at h
    split at h
    · simp only [Bool.and_eq_true, decide_eq_true_eq, Bool.not_eq_true'] at h
      obtain ⟨⟨⟨⟨⟨rfl, h1⟩, h2⟩, h3⟩, h4⟩, h5⟩ := h
      exact i_rng2 (S.gl h1).1 S.env.rng h2 h3 (ie _ _ h4) (ie _ _ h5)
    · cases h
  | zip a b =>
    dsimp only at h
    split at h
    · simp only [Bool.and_eq_true, decide_eq_true_eq, Bool.not_eq_true'] at h
      obtain ⟨⟨⟨⟨⟨rfl, h1⟩, h2⟩, h3⟩, h4⟩, h5⟩ := h
      exact i_zip (S.gl h1).1 S.env.zp h2 h3 (ie _ _ h4) (ie _ _ h5)
    · cases h
  | items a =>
    dsimp only at h
    split at h
    · simp only [Bool.and_eq_true, decide_eq_true_eq] at h
      obtain ⟨⟨⟨rfl, h1⟩, h2⟩, h3⟩ := h
      exact i_items (ie _ _ h3) (attr_of' h1) h2
    · cases h
  | vals a =>
    dsimp only at h
    split at h
    · simp only [Bool.and_eq_true, decide_eq_true_eq] at h
      obtain ⟨⟨⟨rfl, h1⟩, h2⟩, h3⟩ := h
      exact i_vals (ie _ _ h3) (attr_of' h1) h2
    · cases h
  | _ => cases h
theorem snd : ∀ n, Snd g lv n
  | 0 => ⟨fun _ h => (by unfold mE at h; cases h), fun _ h => (by unfold mT at h; cases h), fun _ h => (by unfold mI at h; cases h)⟩
  | n + 1 => ⟨fun S h => snd_e (snd n) S h, fun S h => snd_t (snd n) S h, fun S h => snd_i (snd n) S h⟩
end
/-- what a statement may do beyond expressions -/
structure Cs where
  errs : List (Str × Bool)
  clauses : List Str
def swapN (k : Ck) (tg : Expr) (e : Expr) : Bool := match tg, e with
  | .Tuple _ _ _, .Tuple _ _ _ => false
  | .List _ _, .Tuple _ _ _ => false
  | _, _ => plainV e
/-- whether a comprehension is stored as it grows -/
def lcSwap (k : Ck) (t : Str) (tl vl sl : Nat) (names : List (Str × NameKind)) : Bool :=
  ((if k.sc.kind.isAnnotationScope then ScopeKind.function else k.sc.kind) == .function) && (k.sc.names.lookup t == some .local) && (tl == vl) && !(names.any fun y => y.1 == t && (y.2 == .local || y.2 == .cell))
mutual
def mS : Nat → Ck → Cs → Stmt → S → Bool
  | 0, _, _, _, _ => false
  | n + 1, k, cs, st, ir => match ir with
    | .expr a => (match st with
      | .Expr e _ => plainV e && mE n k e a
      | _ => false)
    | .pass => (match st with
      | .Pass _ => true
      | .Expr (.Constant (.str _) _ _) _ => true
      | _ => false)
    | .brk => (match st with
      | .Break _ => true
      | _ => false)
    | .cont => (match st with
      | .Continue _ => true
      | _ => false)
    | .ret a => (match st with
      | .Return (some e) _ => mE n k e a
      | _ => false)
    | .retN => (match st with
      | .Return none _ => true
      | _ => false)
    | .ite c a b => (match st with
      | .If e sa sb _ => mT n k e c && mSs n k cs sa a && mSs n k cs sb b
      | _ => false)
    | .asg (.var i) a => (match st, a with
      | .Assign [.Name x q] (.ListComp el [⟨tg, iter, ifs, 0⟩] scope p) _, .lcomp elt t it ts => (locC k i x && !lcSwap k x q.line p.line 0 scope.names && mE n k (.ListComp el [⟨tg, iter, ifs, 0⟩] scope p) (.lcomp elt t it ts)) || (locB k i x && k.cm && lcSwap k x q.line p.line 0 scope.names && blkB k.N k.sc scope (ownOf k.N t.slots) && notSet iter && mI n k tg iter it && mG (locB (k.blk scope)) n tg t && (match ifs, ts with
        | [], [] => true
        | [z], [c] => mT n (k.blk scope) z c
        | _, _ => false) && mE n (k.blk scope) el elt)
      | .Assign [.Name x q] (.ListComp el gs scope p) _, a => locC k i x && !lcSwap k x q.line p.line 0 scope.names && mE n k (.ListComp el gs scope p) a
      | .Assign [.Name x _] e _, a => locC k i x && plainV e && mE n k e a
      | _, _ => false)
    | .asg (.tup ts) a => k.cm && (match st, ts, a with
      | .Assign [.Tuple [.Name x px, .Name y py] _ _] (.Tuple [e1, e2] _ _) _, [.var i, .var j], .tup [a, b] => decide (i ≠ j) && locB k i x && locB k j y && !isStarX e1 && !isStarX e2 && notStarE a && notStarE b && mE n k e1 a && mE n k e2 b && !(x == y) && (px.line == py.line) && decide (k.sc.kind = .function) && !([e1, e2].all (foldedForSure 8)) && !([e1, e2].all (constantsAlone 8))
      | .Assign [.Tuple es q r] e _, ts, a => swapN k (.Tuple es q r) e && mG (locC k) (n + 1) (.Tuple es q r) (.tup ts) && mE n k e a
      | _, _, _ => false)
    | .retO i => (match st with
      | .Return (some (.Name x _)) _ => nmB k i x
      | _ => false)
    | .newL i as => (match st with
      | .Assign [.Name x _] (.List es _) _ => locC k i x && mL (mE n k) es as
      | _ => false)
    | .appV i a => (match st with
      | .Expr (.Call (.Attribute (.Name x _) nm apos) [e] [] cpos) _ => decide (nm = "append") && nmB k i x && !isStarX e && (apos.endLine == cpos.line) && mE n k e a
      | _ => false)
    | .atV i f a => (match st with
      | .Assign [.Attribute (.Name x _) f' _] e _ => decide (f' = f) && nmB k i x && plainV e && mE n k e a
      | _ => false)
    | .setR o i a => (match st with
      | .Assign [.Subscript x y _] e _ => notSlice y && plainV e && mE n k e a && mE n k x o && mE n k y i
      | _ => false)
    | .for_ t it body => k.cm && (match st with
      | .For tg iter sb [] _ => notSet iter && mI n k tg iter it && mG (locC k) n tg t && mSs n k cs sb body
      | _ => false)
    | .whl c body => (match st with
      | .While e sb [] _ => mT n k e c && mSs n k cs sb body
      | _ => false)
    | .raise x as => k.cm && (match st with
      | .Raise (some (.Call (.Name x' _) es [] _)) none _ => decide (x' = x) && glB k x && decide (x ∈ errNames) && decide ((x, decide (as.length ≠ 0)) ∈ cs.errs) && decide (as.length ≤ 1) && es.all (fun e => !isStarX e) && mL (mE n k) es as
      | _ => false)
    | .try_ body hs => k.cm && !k.ex && (match st, hs with
      | .Try sb [.ExceptHandler (some (.Name x _)) (some nn) (b₀ :: suite) _] [] [] _, [(x', some i, js)] => decide (x' = x) && decide (x ∈ cs.clauses) && glB k x && locB k i nn && mSs n k cs sb body && mSs n { k with cm := false, ex := true } cs (b₀ :: suite) js
      | .Try sb [.ExceptHandler (some (.Name x _)) none (b₀ :: suite) _] [] [] _, [(x', none, js)] => decide (x' = x) && decide (x ∈ cs.clauses) && glB k x && mSs n k cs sb body && mSs n { k with cm := false, ex := false } cs (b₀ :: suite) js
      | _, _ => false)
    | _ => false
def mSs : Nat → Ck → Cs → List Stmt → List S → Bool
  | 0, _, _, _, _ => false
  | n + 1, k, cs, ss, is => match ss, is with
    | [], [] => true
    | s :: ss, i :: is => mS n k cs s i && mSs n k cs ss is
    | _, _ => false
end
end DI
end

section
set_option linter.all false
set_option maxRecDepth 100000
set_option maxHeartbeats 4000000
/-! DI.S24: the checker of statements is sound. -/
namespace DI
open PySem L2
open PyProof.Rows hiding St
/-- the own errors and what catches them -/
structure EnvX (cs : Cs) (lv : Nat) (P : Program) (w : World) (K : PySem.W.Frag) (mg : Str → Option Value) (base : Heap) : Prop where
  err : ∀ p ∈ cs.errs, ∃ C, ErrC P w K mg base (lv + 8) p.1 C (if p.2 = true then some (excAttr p.1) else none)
  cla : ∀ x ∈ cs.clauses, ∃ c, mg x = some c ∧ ∀ e ∈ errNames, ∀ C, mg e = some (.ref C) → PySem.W.exmOne K (.ref C) c = some (takesC x e)
  xf : ∀ e ∈ errNames, ∀ C, mg e = some (.ref C) → XfC K C ∧ PySem.W.findIn K (.ref C) (excAttr e) = some none
structure SokS (k : Ck) (cs : Cs) (g : G) (lv : Nat) (X : Cx) (W : WX) (xi : XI) : Prop where
  s : Sok k g lv X W xi
  fn : ∀ x, X.fn x = true
  own : PassesOwn (model X.prog X.w) X.A X.env X.xe
  stk : k.cm = true → X.stack = X.env :: X.outer
  fr : k.cm = true → X.env.frame = some X.env.locals
  x : EnvX cs lv X.prog X.w X.K X.mg X.base
  xin : k.ex = false → xi = none
section
variable {X : Cx} {g : G} {W : WX} {xi : XI} {lv : Nat} {k : Ck} {cs : Cs}
theorem SokS.loc (S : SokS k cs g lv X W xi) {i : Nat} {x : Str} (h : locB k i x = true) : X.N[i]? = some x ∧ X.env.scope.names.lookup x = some .local := by
  simp only [locB, Bool.and_eq_true, decide_eq_true_eq] at h
  exact ⟨by rw [S.s.hN]; exact h.1, by rw [S.s.hsc]; exact h.2⟩
theorem SokS.locC (S : SokS k cs g lv X W xi) {i : Nat} {x : Str} (h : locC k i x = true) : X.N[i]? = some x ∧ L2.Loc X.env.scope x := by
  simp only [DI.locC, Bool.and_eq_true, Bool.or_eq_true, decide_eq_true_eq] at h
  exact ⟨by rw [S.s.hN]; exact h.1, by unfold L2.Loc; rw [S.s.hsc]; exact h.2⟩
theorem SokS.nd (S : SokS k cs g lv X W xi) : X.N.Nodup := by rw [S.s.hN]; exact S.s.nd
theorem SokS.var (S : SokS k cs g lv X W xi) {i : Nat} {x : Str} (p : Pos) (h : DI.locC k i x = true) : PG X (.Name x p) (gT X.mg xi (.var i)) := by
  obtain ⟨h1, h2⟩ := S.locC h
  exact g_var S.nd h1 h2 (.inl (S.fn x))
theorem swaps_sole {tg e : Expr} {l : Nat} {env : Env} (h : plainV e = true) : swapsWithSole [tg] e l env = pure false := swaps_plain h
theorem swapped_none {k : Ck} {tg e : Expr} {env : Env} (h : swapN k tg e = true) : swappedStores [tg] e env = pure none := by
  cases tg with
  | Tuple es q r => cases e <;> first | rfl | cases h
  | List es q => cases e <;> first | rfl | cases h
  | _ => rfl
theorem assign_one {tg : Expr} {env : Env} (h : isStarX tg = false) : (assignEach [tg] env).map (·.2) = [assign tg env] := by
  cases tg <;> first | rfl | cases h
theorem lc_swap (S : SokS k cs g lv X W xi) {el : Expr} {scope : Scope} {p q : Pos} {x : Str} {sl : Nat} {gs : List Comprehension} : swapsWith (.ListComp el gs scope p) (some (.Name x q)) sl X.env = pure (lcSwap k x q.line p.line 0 scope.names) := by
  rw [show lcSwap k x q.line p.line 0 scope.names = (X.env.blockKind == .function && X.env.kindOf x == some .local && q.line == p.line && !(scope.names.any fun (n, k) => n == x && (k == .local || k == .cell))) from by
    unfold lcSwap Env.blockKind Env.kindOf
    rw [S.s.hsc]]
  rfl
theorem par_swap (S : SokS k cs g lv X W xi) {x y : Str} {px py pt pt2 : Pos} {kt k2 : Nat} {a b : Expr} (h1 : k.sc.kind = .function) (hx : X.env.scope.names.lookup x = some .local) (hy : X.env.scope.names.lookup y = some .local) (hsa : isStarX a = false) (hsb : isStarX b = false)
    (hxy : (x == y) = false) (hl : (px.line == py.line) = true) (hf : [a, b].all (foldedForSure 8) = false) (hc : [a, b].all (constantsAlone 8) = false) : swappedStores [.Tuple [.Name x px, .Name y py] kt pt] (.Tuple [a, b] k2 pt2) X.env = pure (some [x, y]) := by
  have e1 : (X.env.blockKind != .function) = false := by
    unfold Env.blockKind
    rw [S.s.hsc, h1]
    rfl
  have e2 : ∀ z, X.env.scope.names.lookup z = some .local → (X.env.kindOf z == some .local) = true := fun z hz => by
    unfold Env.kindOf
    rw [hz]
    rfl
  unfold swappedStores
  have l2 : py.line = px.line := by simpa using (Eq.symm (beq_iff_eq.mp hl))
  have hxy' : ¬ y = x := fun z => by subst z; simp at hxy
  have k2' : ∀ z, X.env.scope.names.lookup z = some .local → X.env.kindOf z = some .local := fun z hz => hz
  have f1 : List.filterMap (fun (x_1 : Expr) => match x_1 with
      | .Name id pos => if (X.env.kindOf id == some NameKind.local && pos.line == px.line) = true then some id else none
      | _ => none) [Expr.Name x px, Expr.Name y py] = [x, y] := by
    simp [k2' x hx, k2' y hy, l2]
  have f2 : ¬ ([a, b].any fun z => match z with | .Starred .. => true | _ => false) = true := by
    intro z
    rw [List.any_cons, List.any_cons, List.any_nil, Bool.or_false, Bool.or_eq_true] at z
    rcases z with z | z
    · cases a <;> first | (cases z; done) | (cases hsa; done)
    · cases b <;> first | (cases z; done) | (cases hsb; done)
  have f3 : [x, y].eraseDups.length = 2 := by
    have e : (y == x) = false := by simpa using hxy'
    simp [List.eraseDups_cons, e, hxy']
  show (if (!([Expr.Name x px, Expr.Name y py].length == 2 || [Expr.Name x px, Expr.Name y py].length == 3) || [a, b].length != [Expr.Name x px, Expr.Name y py].length || X.env.blockKind != .function) = true then (pure none : PySem.Sem (Option (List Str))) else
    if ([a, b].any fun z => match z with | .Starred .. => true | _ => false) = true then (pure none : PySem.Sem (Option (List Str))) else _) = _
  rw [e1, if_neg (by simp), if_neg f2]
  show (if ((List.filterMap (fun (x_1 : Expr) => match x_1 with
      | .Name id pos => if (X.env.kindOf id == some NameKind.local && pos.line == px.line) = true then some id else none
      | _ => none) [Expr.Name x px, Expr.Name y py]).length != 2 || (List.filterMap (fun (x_1 : Expr) => match x_1 with
      | .Name id pos => if (X.env.kindOf id == some NameKind.local && pos.line == px.line) = true then some id else none
      | _ => none) [Expr.Name x px, Expr.Name y py]).eraseDups.length != (List.filterMap (fun (x_1 : Expr) => match x_1 with
      | .Name id pos => if (X.env.kindOf id == some NameKind.local && pos.line == px.line) = true then some id else none
      | _ => none) [Expr.Name x px, Expr.Name y py]).length) = true then (pure none : PySem.Sem (Option (List Str))) else _) = _
  rw [f1, f3, if_neg (by simp)]
  rw [if_neg (by rw [hf]; simp)]
  have f4 : (pure (some (List.filterMap (fun (x_1 : Expr) => match x_1 with
      | .Name id pos => if (X.env.kindOf id == some NameKind.local && pos.line == px.line) = true then some id else none
      | _ => none) [Expr.Name x px, Expr.Name y py])) : PySem.Sem (Option (List Str))) = pure (some [x, y]) := by rw [f1]
  refine Eq.trans ?_ f4
  show (if [a, b].all (constantsAlone 8) = true then _ else _) = _
  rw [if_neg (by rw [hc]; simp)]
  rfl
end
end DI
end

section
set_option linter.all false
set_option maxRecDepth 100000
set_option maxHeartbeats 4000000
/-! DI.S25: the checker of statements is sound. -/
namespace DI
open PySem L2
open PyProof.Rows hiding St
section
variable {X : Cx} {g : G} {W : WX} {xi : XI} {lv : Nat} {k : Ck} {cs : Cs}
theorem s_set0 {i : Nat} {x : Str} {e : Expr} {ie : E} {p' p : Pos} (hN : X.N.Nodup) (hi : X.N[i]? = some x) (hx : Loc X.env.scope x) (hf : X.fn x = true ∨ X.env.scope.names.lookup x = some .local) (he : PE X e (TX g X.mg W xi ie)) (hp : swapsWith e (some (.Name x p')) p.line X.env = pure false) :
    PS X (.Assign [.Name x p'] e p) (TS1 g X.mg W xi (.asg (.var i) ie)) := PS.by (ps_set hN hi hx he hp hf) fun D σ H ⟨γ0, H0, γ, s, m, st, h⟩ => by
  simp only [evS] at h
  refine TX.st st h fun γ1 m1 d v H1 st1 rv h1 => ?_
  simp only [asgT, nxO] at h1
  exact h1 γ1 _ H1 (st1.put rv)
structure SndS (cs : Cs) (g : G) (lv : Nat) (n : Nat) : Prop where
  s : ∀ {k X W xi st ir}, SokS k cs g lv X W xi → mS n k cs st ir = true → PS X st (TS1 g X.mg W xi ir)
  ss : ∀ {k X W xi st ir}, SokS k cs g lv X W xi → mSs n k cs st ir = true → PSs X st (TSS g X.mg W xi ir)
theorem SokS.suite (S : SokS k cs g lv X W none) (a : Addr) (oe : Obj) (cls : Value) (d : Option Addr) (pn : List (Addr × Obj)) (hz : Zc cls d oe) (hd : ∃ vs, oe.data = .fields vs) : SokS { k with cm := false, ex := true } cs g lv (X.suite a ((a, oe) :: pn)) WF (some (a, cls, d)) :=
  ⟨⟨S.s.hN, S.s.hsc, S.s.nd, fun h => (by cases h), fun h => (by cases h), fun u s' ⟨_, _, _, _, _, _, _, _, _, _, _, _, _, _, _, _, w⟩ => w.elim, S.s.gq, S.s.o, S.s.env, fun _ i x f p p' h1 h2 h3 h4 => n_exA (n := "") hz hd h1 h2 h3 h4 S.x.xf⟩,
    S.fn, PassesOwn.never, fun h => (by cases h), fun h => (by cases h), S.x, fun h => by cases h⟩
theorem SokS.suite0 (S : SokS k cs g lv X W none) (a : Addr) (oe : Obj) (pn : List (Addr × Obj)) : SokS { k with cm := false, ex := false } cs g lv (X.suite a ((a, oe) :: pn)) WF none :=
  ⟨⟨S.s.hN, S.s.hsc, S.s.nd, fun h => (by cases h), fun h => (by cases h), fun u s' ⟨_, _, _, _, _, _, _, _, _, _, _, _, _, _, _, _, w⟩ => w.elim, S.s.gq, S.s.o, S.s.env, fun h => by cases h⟩,
    S.fn, PassesOwn.never, fun h => (by cases h), fun h => (by cases h), S.x, fun _ => rfl⟩
theorem SokS.tr (S : SokS k cs g lv X W none) (hex : k.ex = false) {W' : WX} {pn : List (Addr × Obj)} {xe : Value → Shared → Prop} (tk : Takes (X.tr pn xe) W') (hp : PassesOwn (model X.prog X.w) X.A X.env xe) : SokS k cs g lv (X.tr pn xe) W' none :=
  ⟨⟨S.s.hN, S.s.hsc, S.s.nd, S.s.calm, S.s.room, tk, S.s.gq, S.s.o, S.s.env, fun h => by rw [hex] at h; cases h⟩, S.fn, hp, S.stk, S.fr, S.x, fun _ => rfl⟩
theorem SokS.clause (S : SokS k cs g lv X W xi) {x : Str} (h : x ∈ cs.clauses) (hg : glB k x = true) : ∃ c, ClauseOk X x c := by
  obtain ⟨c, h1, h2⟩ := S.x.cla x h
  obtain ⟨g1, g2⟩ := S.s.gl hg
  exact ⟨c, ⟨g1, g2, .inl h1⟩, h2⟩
theorem sndS_s {n : Nat} (I : SndS cs g lv n) {st : Stmt} {ir : S} (S : SokS k cs g lv X W xi) (h : mS (n + 1) k cs st ir = true) : PS X st (TS1 g X.mg W xi ir) := by
  have ie : ∀ e ir, mE n k e ir = true → PE X e (TX g X.mg W xi ir) := fun e ir h => (snd n).e S.s h
  have it : ∀ e ir, mT n k e ir = true → PT X e (TB g X.mg W xi ir) := fun e ir h => (snd n).t S.s h
  unfold mS at h
  cases ir with
  | expr a =>
    dsimp only at h
    split at h
    · rw [Bool.and_eq_true] at h
      exact s_expr (ie _ _ h.2) h.1
    · cases h
  | pass =>
    dsimp only at h
    split at h
    · exact s_pass
    · exact s_doc
    · cases h
  | brk =>
    dsimp only at h
    split at h
    · exact s_brk
    · cases h
  | cont =>
    dsimp only at h
    split at h
    · exact s_cont
    · cases h
  | ret a =>
    dsimp only at h
    split at h
    · exact s_ret (ie _ _ h)
    · cases h
  | retN =>
    dsimp only at h
    split at h
    · exact s_retN
    · cases h
  | ite c a b =>
    dsimp only at h
    split at h
    · simp only [Bool.and_eq_true] at h
      exact s_if (it _ _ h.1.1) (I.ss S h.1.2) (I.ss S h.2)
    · cases h
  | retO i =>
    dsimp only at h
    split at h
    · obtain ⟨k1, k2, k3, k4⟩ := S.s.nm h
      exact s_retO k1 k2 k3 k4
    · cases h
  | newL i as =>
    dsimp only at h
    split at h
    · simp only [Bool.and_eq_true] at h
      obtain ⟨l1, l2⟩ := S.locC h.1
      exact s_newL S.nd l1 l2 (.inl (S.fn _)) (mL_ok ie h.2)
    · cases h
  | appV i a =>
    dsimp only at h
    split at h
    · simp only [Bool.and_eq_true, decide_eq_true_eq, Bool.not_eq_true'] at h
      obtain ⟨⟨⟨⟨rfl, h1⟩, h2⟩, h3⟩, h4⟩ := h
      obtain ⟨k1, k2, k3, k4⟩ := S.s.nm h1
      exact s_appV k1 k2 k3 k4 (ie _ _ h4) h2 h3
    · cases h
  | atV i f a =>
    dsimp only at h
    split at h
    · simp only [Bool.and_eq_true, decide_eq_true_eq] at h
      obtain ⟨⟨⟨rfl, h1⟩, h2⟩, h3⟩ := h
      obtain ⟨k1, k2, k3, k4⟩ := S.s.nm h1
      exact s_atV S.s.o k1 k2 k3 k4 (ie _ _ h3) h2
    · cases h
  | setR o i a =>
    dsimp only at h
    split at h
    · simp only [Bool.and_eq_true] at h
      obtain ⟨⟨⟨⟨h1, h2⟩, h3⟩, h4⟩, h5⟩ := h
      exact s_setR (ie _ _ h3) (ie _ _ h4) (ie _ _ h5) h2 h1
    · cases h
  | for_ t it' body =>
    simp only [Bool.and_eq_true] at h
    obtain ⟨hc, h⟩ := h
    split at h
    · simp only [Bool.and_eq_true] at h
      obtain ⟨⟨⟨h1, h2⟩, h3⟩, h4⟩ := h
      exact s_for S.own (S.s.calm hc) ((snd n).i S.s h2) (mG_ok (S.s.calm hc) (fun i x p hl => S.var p hl) n h3) (I.ss S h4) (notSet_ok h1)
    · cases h
  | whl c body =>
    dsimp only at h
    split at h
    · simp only [Bool.and_eq_true] at h
      exact s_while S.own (it _ _ h.1) (I.ss S h.2)
    · cases h
  | raise x as =>
    simp only [Bool.and_eq_true] at h
    obtain ⟨hc, h⟩ := h
    split at h
    · simp only [Bool.and_eq_true, decide_eq_true_eq] at h
      obtain ⟨⟨⟨⟨⟨⟨rfl, h1⟩, h2⟩, h3⟩, h4⟩, h5⟩, h6⟩ := h
      obtain ⟨C, M⟩ := S.x.err _ h3
      obtain ⟨g1, g2⟩ := S.s.gl h1
      refine s_raise (S.s.calm hc) S.s.tk M (S.s.room hc) g1 g2 h2 ?_ h4 (fun e => ?_) h5 (mL_ok ie h6)
      · simp only [decide_eq_true_eq]
        by_cases z : as.length = 0
        · rw [if_neg (by simp [z]), if_pos z]
        · rw [if_pos z, if_neg z]
      · subst e
        cases as with
        | nil => rfl
        | cons _ _ => cases h6
    · cases h
  | try_ body hs =>
    simp only [Bool.and_eq_true, Bool.not_eq_true'] at h
    obtain ⟨⟨hc, hex⟩, h⟩ := h
    have hxi := S.xin hex
    subst hxi
    split at h
    · simp only [Bool.and_eq_true, decide_eq_true_eq] at h
      obtain ⟨⟨⟨⟨⟨rfl, h1⟩, h2⟩, h3⟩, h4⟩, h5⟩ := h
      obtain ⟨c, hcl⟩ := S.clause h1 h2
      obtain ⟨l1, l2⟩ := S.loc h3
      exact s_try_as (S.stk hc) (S.fr hc) S.nd l1 l2 hcl S.s.tk (fun W' pn xe tk hp => I.ss (S.tr hex tk hp) h4) fun a oe cls d pn hz hd => I.ss (S.suite a oe cls d pn hz hd) h5
    · simp only [Bool.and_eq_true, decide_eq_true_eq] at h
      obtain ⟨⟨⟨⟨rfl, h1⟩, h2⟩, h4⟩, h5⟩ := h
      obtain ⟨c, hcl⟩ := S.clause h1 h2
      exact s_try_only (S.stk hc) (S.fr hc) hcl S.s.tk (fun W' pn xe tk hp => I.ss (S.tr hex tk hp) h4) fun a oe cls d pn hz hd => I.ss (S.suite0 a oe pn) h5
    · cases h
  | asg t a =>
    cases t with
    | var i =>
      dsimp only at h
      split at h
      · rename_i x q el tg iter ifs scope p sp elt t it' ts
        rw [Bool.or_eq_true] at h
        rcases h with h | h
        · simp only [Bool.and_eq_true, Bool.not_eq_true'] at h
          obtain ⟨⟨h0, hsw⟩, h1⟩ := h
          obtain ⟨l1, l2⟩ := S.locC h0
          exact s_set0 S.nd l1 l2 (.inl (S.fn _)) (ie _ _ h1) (by rw [lc_swap S, hsw])
        simp only [Bool.or_eq_true, Bool.and_eq_true] at h
        obtain ⟨⟨⟨⟨⟨⟨⟨⟨h0, hc⟩, hsw⟩, h1⟩, h2⟩, h3⟩, h4⟩, h5⟩, h6⟩ := h
        obtain ⟨l1, l2⟩ := S.loc h0
        have ok := blkB_ok h1
        refine s_setLc (S.s.calm hc) S.nd l1 l2 (by rw [lc_swap S, hsw]) ((snd n).i S.s h3) (by rw [S.s.hN, S.s.hsc]; exact ok) ?_ (fun s H C cl fp => mG_ok (X := X.blk s H scope (compEnvC scope cl C X.env) fp) (S.s.calm hc) (fun i x p hl => ?_) n h4) (fun s H C cl fp => ?_) (fun s H C cl fp => (snd n).e (S.s.blk s H scope cl C fp) h6) (notSet_ok h2)
        · unfold ownOf
          rw [List.map_map]
          exact List.map_id _
        · simp only [locB, Bool.and_eq_true, decide_eq_true_eq] at hl
          have e1 : (X.blk s H scope (compEnvC scope cl C X.env) fp).env.scope = (k.blk scope).sc := (S.s.blk s H scope cl C fp).hsc
          exact g_var (X := X.blk s H scope (compEnvC scope cl C X.env) fp) S.nd (by show X.N[i]? = _; rw [S.s.hN]; exact hl.1) (.inl (by rw [e1]; exact hl.2)) (.inr (by rw [e1]; exact hl.2))
        · split at h5
          · exact c_nil
          · exact c_one ((snd n).t (S.s.blk s H scope cl C fp) h5)
          · cases h5
      · simp only [Bool.and_eq_true, Bool.not_eq_true'] at h
        obtain ⟨⟨h0, hsw⟩, h1⟩ := h
        obtain ⟨l1, l2⟩ := S.locC h0
        exact s_set0 S.nd l1 l2 (.inl (S.fn _)) (ie _ _ h1) (by rw [lc_swap S, hsw])
      · simp only [Bool.and_eq_true] at h
        obtain ⟨⟨h0, h1⟩, h2⟩ := h
        obtain ⟨l1, l2⟩ := S.locC h0
        exact s_set S.nd l1 l2 (.inl (S.fn _)) (ie _ _ h2) h1
      · cases h
    | tup ts =>
      simp only [Bool.and_eq_true] at h
      obtain ⟨hc, h⟩ := h
      split at h
      · simp only [Bool.and_eq_true, decide_eq_true_eq, Bool.not_eq_true'] at h
        obtain ⟨⟨⟨⟨⟨⟨⟨⟨⟨⟨⟨⟨⟨h1, h2⟩, h3⟩, h4⟩, h5⟩, h6⟩, h7⟩, h8⟩, h9⟩, ha⟩, hb⟩, hd⟩, he⟩, hf⟩ := h
        obtain ⟨l1, l2⟩ := S.loc h2
        obtain ⟨l3, l4⟩ := S.loc h3
        exact s_par (S.s.calm hc) S.nd l1 l3 h1 l2 l4 (ie _ _ h8) (ie _ _ h9) h4 h5 (notStarE_ok h6) (notStarE_ok h7) (par_swap S hd l2 l4 h4 h5 ha hb he hf)
      · simp only [Bool.and_eq_true] at h
        obtain ⟨⟨h1, h2⟩, h3⟩ := h
        have hp : ∀ {tg e : Expr}, swapN k tg e = true → plainV e = true := fun {tg e} h1 => by
          unfold swapN at h1
          split at h1
          · cases h1
          · cases h1
          · exact h1
        exact s_asg (ie _ _ h3) (mG_ok (S.s.calm hc) (fun i x p hl => S.var p hl) (n + 1) h2) (swaps_sole (hp h1)) (swapped_none (k := k) h1) (assign_one rfl)
      · cases h
  | _ => cases h
theorem sndS_ss {n : Nat} (I : SndS cs g lv n) {st : List Stmt} {ir : List S} (S : SokS k cs g lv X W xi) (h : mSs (n + 1) k cs st ir = true) : PSs X st (TSS g X.mg W xi ir) := by
  unfold mSs at h
  split at h
  · exact p_nil
  · rw [Bool.and_eq_true] at h
    exact p_cons (I.s S h.1) (I.ss S h.2)
  · cases h
theorem sndS : ∀ n, SndS cs g lv n
  | 0 => ⟨fun _ h => (by unfold mS at h; cases h), fun _ h => (by unfold mSs at h; cases h)⟩
  | n + 1 => ⟨fun S h => sndS_s (sndS n) S h, fun S h => sndS_ss (sndS n) S h⟩
end
end DI
end

section
set_option linter.all false
set_option maxRecDepth 100000
set_option maxHeartbeats 4000000
/-! DI.S26: the facts of a top, by one Bool of the written part. -/
namespace DI
open PySem L2 He
open PyProof.Rows hiding St
/-- what a law's text has: own classes, their fields, own errors -/
structure Tx where
  cs : List Nat
  flds : List (Nat × Str)
  errs : List Str
def Tx.lo (t : Tx) : List Str := ("LoanError" : Str) :: t.errs
def tn7 : List String := ["NoneType", "bool", "int", "str", "tuple", "list", "dict"]
def tn6 : List String := ["bool", "int", "str", "tuple", "list", "dict"]
def clsB (K : PySem.W.Frag) (x : Str) : Bool := (Fa.cls x).ok K && (decide (PySem.W.findIn K (.ref (ga K x)) "__class__" = some (some (.builtin "object.__class__"))) && (decide (PySem.W.specialIn K (.builtin "object.__class__") "__get__" = some (some (.builtin "getset_descriptor.__get__"))) &&
  (decide (PySem.W.takesIn K (.builtin "object.__class__") = some true) && (decide (PySem.W.mroIn K (ga K x) (.type "object") = some true) && (PySem.W.selfFirst K (ga K x) && (tn7.all (fun T => decide (PySem.W.subIn K (.type T) (.ref (ga K x)) = some false)) &&
  (tn7.all (fun T => decide (PySem.W.kitOne K (.type T) (.ref (ga K x)) = some false)) && tn6.all (fun T => decide (PySem.W.kitOne K (.ref (ga K x)) (.type T) = some false)))))))))
theorem clsB_ok {K : PySem.W.Frag} {x : Str} (h : clsB K x = true) : ClsF K (ga K x) := by
  simp only [clsB, Bool.and_eq_true, decide_eq_true_eq, List.all_eq_true] at h
  obtain ⟨h1, h2, h3, h4, h5, h6, h7, h8, h9⟩ := h
  exact ⟨cls_ok h1, h2, h3, h4, h5, h6, h7, h8, h9⟩
def gloB (K : PySem.W.Frag) (x : Str) : Bool := (Fa.glo x).ok K
def freeB (K : PySem.W.Frag) (x : Str) : Bool := (Fa.free x).ok K
def errB (K : PySem.W.Frag) (e : Str) : Bool := gloB K e && (xfB K (ga K e) && decide (PySem.W.findIn K (.ref (ga K e)) (excAttr e) = some none))
def frees : List Str := ["len", "abs", "int", "max", "min", "all", "any", "list", "tuple", "repr", "str", "sorted", "dict", "bool", "range", "isinstance", "zip", "enumerate", "?"]
def baseB (t : Tx) (K : PySem.W.Frag) : Bool := (List.range 10).all (fun c => if c ∈ t.cs then gloB K (clsName c) && clsB K (clsName c) else freeB K (clsName c)) && (frees.all (freeB K) &&
  (t.cs.all (fun c => t.cs.all fun d => decide (PySem.W.kitOne K (.ref (ga K (clsName d))) (.ref (ga K (clsName c))) = some (d == c)) && (decide (d = c) || (decide (PySem.W.subIn K (.ref (ga K (clsName d))) (.ref (ga K (clsName c))) = some false) && !decide (ga K (clsName c) = ga K (clsName d))))) &&
  (t.flds.all (fun p => decide (PySem.W.findIn K (.ref (ga K (clsName p.1))) p.2 = some none)) && (errNames.all (fun e => if e ∈ t.errs then errB K e else freeB K e) && ((t.errs.all fun e => t.lo.all fun x => decide (PySem.W.exmOne K (.ref (ga K e)) (.ref (ga K x)) = some (takesC x e))) &&
  (gloB K "LoanError" && ((K.all fun q => !decide (q.2.cls = Value.type "list")) && (t.cs.all (fun c => decide (c < 10)) && t.errs.all fun e => decide (e ∈ errNames)))))))))
/-- the facts of a top -/
structure Base (t : Tx) (K : PySem.W.Frag) (mg : Str → Option Value) : Prop where
  cls : ∀ c C, mg (clsName c) = some (.ref C) → c ∈ t.cs ∧ C = ga K (clsName c)
  cin : ∀ c ∈ t.cs, mg (clsName c) = some (.ref (ga K (clsName c))) ∧ ClsF K (ga K (clsName c))
  fre : ∀ x ∈ frees, mg x = none
  two : ∀ c ∈ t.cs, ∀ d ∈ t.cs, PySem.W.kitOne K (.ref (ga K (clsName d))) (.ref (ga K (clsName c))) = some (d == c) ∧ (d ≠ c → PySem.W.subIn K (.ref (ga K (clsName d))) (.ref (ga K (clsName c))) = some false ∧ ga K (clsName c) ≠ ga K (clsName d))
  fld : ∀ p ∈ t.flds, NoAttr K (ga K (clsName p.1)) p.2
  err : ∀ e ∈ errNames, ∀ C, mg e = some (.ref C) → e ∈ t.errs ∧ C = ga K e
  ein : ∀ e ∈ t.errs, e ∈ errNames → mg e = some (.ref (ga K e)) ∧ XfC K (ga K e) ∧ PySem.W.findIn K (.ref (ga K e)) (excAttr e) = some none
  exm : ∀ e ∈ t.errs, ∀ x ∈ t.lo, PySem.W.exmOne K (.ref (ga K e)) (.ref (ga K x)) = some (takesC x e)
  loan : mg "LoanError" = some (.ref (ga K "LoanError"))
  nol : ∀ a o, K.lookup a = some o → o.cls ≠ .type "list"
theorem mem_lookup {a : Addr} {o : Obj} : ∀ {l : List (Addr × Obj)}, l.lookup a = some o → (a, o) ∈ l
  | (b, u) :: r, h => by
    rw [List.lookup_cons] at h
    split at h
    · rename_i e
      cases h
      rw [beq_iff_eq.mp e]
      exact List.mem_cons_self ..
    · exact List.mem_cons_of_mem _ (mem_lookup h)
theorem baseB_ok {t : Tx} {K : PySem.W.Frag} {h : Heap} {mg : Str → Option Value} (X : K.In h) (G : h.Ns mainGlobals mg) (hb : baseB t K = true) : Base t K mg := by
  simp only [baseB, Bool.and_eq_true, List.all_eq_true, decide_eq_true_eq, Bool.or_eq_true, Bool.not_eq_true', decide_eq_false_iff_not] at hb
  obtain ⟨h1, h2, h3, h4, h5, h6, h7, h8, h9, h10⟩ := hb
  have cl : ∀ c < 10, (c ∈ t.cs → gloB K (clsName c) = true ∧ clsB K (clsName c) = true) ∧ (c ∉ t.cs → mg (clsName c) = none) := fun c hc => by
    have z := h1 c (List.mem_range.mpr hc)
    by_cases m : c ∈ t.cs
    · rw [if_pos m, Bool.and_eq_true] at z
      exact ⟨fun _ => z, fun n => absurd m n⟩
    · rw [if_neg m] at z
      exact ⟨fun n => absurd n m, fun _ => free_ok X G z⟩
  have hfree : ∀ x ∈ frees, mg x = none := fun x hx => free_ok X G (h2 x hx)
  have big : ∀ c, 10 ≤ c → mg (clsName c) = none := fun c hc => by
    have e : clsName c = "?" := by
      match c, hc with
      | n + 10, _ => rfl
    rw [e]
    exact hfree _ (by simp [frees])
  have er : ∀ e ∈ errNames, (e ∈ t.errs → errB K e = true) ∧ (e ∉ t.errs → mg e = none) := fun e he => by
    have z := h5 e he
    by_cases m : e ∈ t.errs
    · rw [if_pos m] at z
      exact ⟨fun _ => z, fun n => absurd m n⟩
    · rw [if_neg m] at z
      exact ⟨fun n => absurd n m, fun _ => free_ok X G z⟩
  have cin0 : ∀ c ∈ t.cs, c < 10 → mg (clsName c) = some (.ref (ga K (clsName c))) ∧ ClsF K (ga K (clsName c)) := fun c hc hl => by
    obtain ⟨z1, z2⟩ := (cl c hl).1 hc
    exact ⟨glo_ok X G z1, clsB_ok z2⟩
  have addr : ∀ {x : Str} {C : Addr}, mg x = some (.ref C) → mg x = some (.ref (ga K x)) → C = ga K x := fun {x C} a b => by
    rw [a] at b
    cases b
    rfl
  refine ⟨fun c C hc => ?_, fun c hc => cin0 c hc (h9 c hc), hfree, fun c hc d hd => ?_, fun p hp => h4 p hp, fun e he C hC => ?_, fun e he _ => ?_, fun e he x hx => h6 e he x hx, glo_ok X G h7, fun a o hl => ?_⟩
  · have hl : c < 10 := by
      by_cases z : c < 10
      · exact z
      · rw [big c (by omega)] at hc
        cases hc
    have hm : c ∈ t.cs := by
      by_cases m : c ∈ t.cs
      · exact m
      · rw [(cl c hl).2 m] at hc
        cases hc
    exact ⟨hm, addr hc (cin0 c hm hl).1⟩
  · obtain ⟨z1, z2⟩ := h3 c hc d hd
    exact ⟨z1, fun ne => by
      rcases z2 with z2 | z2
      · exact absurd z2 ne
      · exact z2⟩
  · have hm : e ∈ t.errs := by
      by_cases m : e ∈ t.errs
      · exact m
      · rw [(er e he).2 m] at hC
        cases hC
    have z := (er e he).1 hm
    simp only [errB, Bool.and_eq_true] at z
    exact ⟨hm, addr hC (glo_ok X G z.1)⟩
  · have z := (er e (h10 e he)).1 he
    simp only [errB, Bool.and_eq_true, decide_eq_true_eq] at z
    exact ⟨glo_ok X G z.1, xfB_ok z.2.1, z.2.2⟩
  · exact h8 (a, o) (mem_lookup hl)
/-- the facts for a body -/
theorem Base.ok0 {t : Tx} {g : G} {lv : Nat} {P : Program} {w : World} {K : PySem.W.Frag} {mg : Str → Option Value} {base : Heap} (B : Base t K mg) (hf : ∀ p ∈ g.fld, p ∈ t.flds)
    (bop : ∀ op c f, (opTab g op).lookup c = some f → MethSh P w K mg base lv c (bopName op) 1 [] f ∧ ∀ C, mg (clsName c) = some (.ref C) → PySem.W.findIn K (.ref C) (bopR op) = some none)
    (neg : ∀ c f, g.neg.lookup c = some f → MethSh P w K mg base lv c "__neg__" 0 [] f)
    (eq : ∀ c f, g.eq.lookup c = some f → MethSh P w K mg base lv c "__eq__" 1 [] f ∧ (∀ C, mg (clsName c) = some (.ref C) → PySem.W.findIn K (.ref C) "__ne__" = some (some (.builtin "object.__ne__"))) ∧
      (∀ fs m r, f [.obj c fs, .obj c fs] m = r → r ≠ .stuck → r = .ok (.bl true) m) ∧ ∀ x y m r m', f [x, y] m = .ok r m' → m' = m)
    (cop : ∀ op c f, (ltTab g op).lookup c = some f → MethSh P w K mg base lv c (copName op) 1 [] f) : Ok0 g lv P w K mg base := by
  refine ⟨fun c C hc => ?_, fun c d C D hc hd => ?_, fun c d C hc hd => ?_, bop, neg, eq, fun c f C hm hc => ?_, cop⟩
  · obtain ⟨h1, rfl⟩ := B.cls c C hc
    exact (B.cin c h1).2
  · obtain ⟨h1, rfl⟩ := B.cls c C hc
    obtain ⟨h2, rfl⟩ := B.cls d D hd
    obtain ⟨z1, z2⟩ := B.two c h1 d h2
    exact ⟨z1, fun ne => (z2 ne).1⟩
  · obtain ⟨h1, rfl⟩ := B.cls c C hc
    obtain ⟨h2, e⟩ := B.cls d _ hd
    by_cases z : d = c
    · exact z.symm
    · exact absurd e ((B.two c h1 d h2).2 z).2
  · obtain ⟨h1, rfl⟩ := B.cls c C hc
    exact B.fld (c, f) (hf _ hm)
theorem Base.envB {t : Tx} {fsh msh : List (Str × Nat × List Str)} {g : G} {lv : Nat} {P : Program} {w : World} {K : PySem.W.Frag} {mg : Str → Option Value} {base : Heap} (B : Base t K mg)
    (fn : ∀ (i : Nat) (x : Str) (n : Nat) (ks : List Str), fsh[i]? = some (x, n, ks) → ∃ (f : Sem) (u : Value), g.fn[i]? = some f ∧ mg x = some u ∧ PySem.W.keepIn K u = true ∧ RunSh P w K mg base lv u n ks f)
    (me : ∀ (mi : Nat) (nm : Str) (n : Nat) (ks : List Str), msh[mi]? = some (nm, n, ks) → ∀ (tab : List (Nat × Sem)) (c : Nat) (f : Sem), g.me[mi]? = some tab → tab.lookup c = some f → MethSh P w K mg base lv c nm n ks f) : EnvB fsh msh t.cs g lv P w K mg base :=
  ⟨fn, me, fun b => B.fre _ (by cases b <;> simp [frees, biName]), B.fre _ (by simp [frees]), B.fre _ (by simp [frees]), B.fre _ (by simp [frees]), fun ty h => B.fre _ (by
    cases ty with
    | cls c => exact absurd rfl (h c)
    | _ => simp [frees, tyNm]), fun c hc => ⟨_, (B.cin c hc).1⟩⟩
theorem Base.envX {t : Tx} {cs : Cs} {lv : Nat} {P : Program} {w : World} {K : PySem.W.Frag} {mg : Str → Option Value} {base : Heap} (B : Base t K mg) (hc : ∀ x ∈ cs.clauses, x ∈ t.lo) (he : ∀ e ∈ t.errs, e ∈ errNames)
    (err : ∀ p ∈ cs.errs, ∃ C, ErrC P w K mg base (lv + 8) p.1 C (if p.2 = true then some (excAttr p.1) else none)) : EnvX cs lv P w K mg base :=
  ⟨err, fun x hx => ⟨.ref (ga K x), by
    rcases List.mem_cons.mp (hc x hx) with z | z
    · rw [z]; exact B.loan
    · exact (B.ein x z (he x z)).1, fun e hen C hC => by
    obtain ⟨h1, rfl⟩ := B.err e hen C hC
    exact B.exm e h1 x (hc x hx)⟩, fun e hen C hC => by
    obtain ⟨h1, rfl⟩ := B.err e hen C hC
    exact (B.ein e h1 hen).2⟩
end DI
end

section
set_option linter.all false
set_option maxRecDepth 100000
set_option maxHeartbeats 4000000
/-! DI.S27: own errors from the facts. -/
namespace DI
open PySem L2 He
open PyProof.Rows hiding St
section
variable {P : Program} {w : World} {K : PySem.W.Frag} {mg : Str → Option Value} {base : Heap} {k : Nat} {C fI CL : Addr} {fd : FuncData} {qual : Str} {params : Arguments} {scope : Scope} {txt f prm : Str} {p1 p2 p3 p4 p5 p6 q1 q2 q3 q4 : Pos} {j : Nat}
def initB0 (txt : Str) (p1 p2 p3 p4 p5 p6 : Pos) (j : Nat) : Stmt := .Expr (.Call (.Attribute (.Name "LoanError" p1) "__init__" p2) [.Name "self" p3, .Constant (.str txt) j p4] [] p5) p6
theorem err_fn0 (oex : OexC K C) (F : FunD K "__init__" qual params [initB0 txt p1 p2 p3 p4 p5 p6 j] scope [] [] fI fd) (S : FnScope ["self"] ["self"] scope) (hg : scope.names.lookup ("LoanError" : Str) = some .globalImplicit) (hs : scope.names.lookup ("self" : Str) = some .local) (hl : (p2.endLine == p5.line) = true)
    (hm : mg "LoanError" = some (.ref CL)) (r : ClX.CRead K CL (.type "type")) (vV : PySem.W.findCls K (.ref CL) (.type "type") "__init__" = some (.val (.builtin "ValueError.__init__"))) :
    FnOk P w K mg base (L2.CX P w) (k + 1) fI fd ["self"] (initSp C none) :=
  F.ok S (fun vs H Q E ⟨a, ws, e, _, z, _⟩ => by rw [e, z]; rfl) fun cdv A outer s H vs Q E hr ⟨a, ws, e, ha, z, q⟩ => by
    refine ⟨_, pss_one (ps_expr (pe_oinit hg hm (by decide) r vV (pa_cons (pe_var (i := 0) rfl (.inl hs) (by decide) (by decide)) (pa_cons pe_str pa_nil)) (by rfl) (by simp) hl) (by rfl)), ?_⟩
    subst z
    subst e
    exact ⟨.ref a, rfl, a, C, _, rfl, by simp, oex, ha, q⟩
theorem err_fn1 (oex : OexC K C) (no : PySem.W.findIn K (.ref C) f = some none) (F : FunD K "__init__" qual params [initB0 txt p1 p2 p3 p4 p5 p6 j, .Assign [.Attribute (.Name "self" q1) f q2] (.Name prm q3) q4] scope [] [] fI fd) (S : FnScope ["self", prm] ["self", prm] scope) (hg : scope.names.lookup ("LoanError" : Str) = some .globalImplicit)
    (hs : scope.names.lookup ("self" : Str) = some .local) (hp : scope.names.lookup prm = some .local) (hl : (p2.endLine == p5.line) = true) (hd : (prm == ("__debug__" : Str)) = false) (hcd : (prm == ("__classdict__" : Str)) = false)
    (hm : mg "LoanError" = some (.ref CL)) (r : ClX.CRead K CL (.type "type")) (vV : PySem.W.findCls K (.ref CL) (.type "type") "__init__" = some (.val (.builtin "ValueError.__init__"))) :
    FnOk P w K mg base (L2.CX P w) (k + 1) fI fd ["self", prm] (initSp C (some f)) :=
  F.ok S (fun vs H Q E ⟨a, ws, e, _, y, z, _⟩ => by rw [e, z]; rfl) fun cdv A outer s H vs Q E hr ⟨a, ws, e, ha, y, z, q⟩ => by
    refine ⟨_, pss_cons (ps_expr (pe_oinit hg hm (by decide) r vV (pa_cons (pe_var (i := 0) rfl (.inl hs) (by decide) (by decide)) (pa_cons pe_str pa_nil)) (by rfl) (by simp) hl) (by rfl))
      (pss_one (ps_ost (pe_var (i := 0) rfl (.inl hs) (by decide) (by decide)) (pe_var (i := 1) rfl (.inl hp) hd hcd))), ?_⟩
    subst z
    subst e
    refine ⟨.ref a, rfl, a, C, _, rfl, by simp, oex, ha, y, rfl, .ref a, rfl, a, C, rfl, oex, no, .inl ⟨ha, fun dx h1 h2 => q dx h1 h2⟩⟩
/-- an own error's class, told -/
def oexB (K : PySem.W.Frag) (C : Addr) : Bool := (match K.lookup C with
  | some ⟨.type "type", _, .cls cd, sl⟩ => (match cd.mro, sl.toList with
    | .ref C' :: bm, [_, _, _, _, some (.builtin n), _] => C' == C && n == "ValueError.__new__" && !cd.hasDel && cd.hasDict && PySem.HandSPX.refsVE bm
    | _, _ => false)
  | _ => false) && (decide (PySem.W.findIn K (.ref C) "__setattr__" = some (some (.builtin "object.__setattr__"))) && (decide (PySem.W.subIn K (.ref C) (.type "BaseException") = some true) && (decide (PySem.W.typeIn K (.ref C) = some (.type "type")) && PySem.W.keepIn K (.ref C))))
theorem oexB_ok (h : oexB K C = true) : OexC K C := by
  unfold oexB at h
  simp only [Bool.and_eq_true, decide_eq_true_eq] at h
  obtain ⟨q, h1, h2, h3, h4⟩ := h
  refine ⟨?_, h1, h2, h3, h4⟩
  split at q
  · rename_i dd cd sl ho
    split at q
    · rename_i C' bm k0 k1 k2 k3 n k5 hm hs
      simp only [Bool.and_eq_true, beq_iff_eq, Bool.not_eq_true'] at q
      obtain ⟨⟨⟨⟨rfl, rfl⟩, hdel⟩, hhd⟩, hr⟩ := q
      obtain ⟨nm, bs, mro, ns, qn, hd, sn, sub, ab, col, del⟩ := cd
      dsimp only at hm hdel hhd
      subst hm hdel hhd
      have hsl : sl = #[k0, k1, k2, k3, some (.builtin "ValueError.__new__"), k5] := by
        obtain ⟨l⟩ := sl
        simp only at hs
        rw [hs]
      subst hsl
      exact ⟨nm, qn, ns, bs, bm, sn, sub, ab, col, dd, k0, k1, k2, k3, k5, ho, hr⟩
    · cases q
  · cases q
/-- the base of the own errors, told -/
def loanB (K : PySem.W.Frag) : Bool := PySem.W.readsIn K (ga K "LoanError") (.type "type") && (decide (PySem.W.specialIn K (.ref (ga K "LoanError")) "__getattribute__" = some (some (.builtin "type.__getattribute__"))) &&
  (match PySem.W.findCls K (.ref (ga K "LoanError")) (.type "type") "__init__" with
  | some (.val (.builtin n)) => n == "ValueError.__init__"
  | _ => false))
theorem loanB_ok (h : loanB K = true) : ClX.CRead K (ga K "LoanError") (.type "type") ∧ PySem.W.findCls K (.ref (ga K "LoanError")) (.type "type") "__init__" = some (.val (.builtin "ValueError.__init__")) := by
  unfold loanB at h
  simp only [Bool.and_eq_true, decide_eq_true_eq] at h
  obtain ⟨h1, h2, h3⟩ := h
  refine ⟨⟨h1, h2⟩, ?_⟩
  split at h3
  · rename_i e
    rw [e, beq_iff_eq.mp h3]
  · cases h3
/-- an own error's __init__, told: where it stands -/
def initB (K : PySem.W.Frag) (x : Str) : Bool := decide (PySem.W.findIn K (.ref (ga K x)) "__init__" = some (some (.ref (ma K (ga K x) "__init__")))) && decide (PySem.W.typeIn K (.ref (ma K (ga K x) "__init__")) = some (.type "function"))
end
end DI
end

section
set_option linter.all false
set_option maxRecDepth 100000
set_option maxHeartbeats 4000000
/-! DI.S28: defs by the checker; a law's end. -/
namespace DI
open PySem L2 He
open PyProof.Rows hiding St
def fnScopeB (N ps : List Str) (sc : Scope) : Bool := decide (sc.kind = .function) && (decide (sc.isCoroutine = false) && (decide (sc.isGenerator = false) && (decide N.Nodup && (decide (N.take ps.length = ps) && (ps.all (fun x => decide (sc.names.lookup x = some .local) || decide (sc.names.lookup x = some .cell)) && sc.names.all (fun y => decide (y.2 ≠ .free)))))))
theorem fnScopeB_ok {N ps : List Str} {sc : Scope} (h : fnScopeB N ps sc = true) : FnScope N ps sc := by
  simp only [fnScopeB, Bool.and_eq_true, decide_eq_true_eq, List.all_eq_true, Bool.or_eq_true] at h
  obtain ⟨h1, h2, h3, h4, h5, h6, h7⟩ := h
  exact ⟨h1, h2, h3, h4, h5, h6, h7⟩
section
variable {P : Program} {w : World} {K : PySem.W.Frag} {mg : Str → Option Value} {base : Heap} {lv : Nat} {g : G}
theorem def_ok {x qual : Str} {params : Arguments} {stmts : List Stmt} {scope : Scope} {dvs : List V} {kws : List (Str × V)} {f : Addr} {fd : FuncData} {N ps : List Str} {ir : List S} {fsh msh : List (Str × Nat × List Str)} {cls : List Nat} {cs : Cs} (n : Nat)
    (F : FunD K x qual params stmts scope dvs kws f fd) (hs : fnScopeB N ps scope = true) (o : Ok0 g lv P w K mg base) (e : EnvB fsh msh cls g lv P w K mg base) (ex : EnvX cs lv P w K mg base) (chk : mSs n ⟨N, scope, fsh, msh, cls, true, false⟩ cs stmts ir = true) :
    FnG P w K mg base (L2.CX P w) (lv + 10) f fd ps (bodySp mg g N ps.length ir) :=
  fnOk_body F (fnScopeB_ok hs) fun X W c => by
    obtain ⟨e1, e2, e3, e4, e5, e6, e7, nd, fn, calm, room, tk, gq, own, stk, fr⟩ := c
    subst e1 e2 e3 e4 e5
    exact (sndS n).ss ⟨⟨e6, e7, nd, calm, room, tk, gq, o, e, fun h => by cases h⟩, fn, own, stk, fr, ex, fun _ => rfl⟩ chk
theorem KBn.pos {fd : FuncData} {ps : List Str} (hb : Binds K fd ps []) : KBn K fd ps ps.length [] (fun us _ => us) (fun vs _ => vs) :=
  ⟨fun s us ws X l1 l2 => by
    have z := hb s us X (by rw [List.append_nil]; exact l1)
    rw [List.append_nil] at z
    rw [List.zip_nil_left]
    exact z, fun r _ => r⟩
theorem KBn.posD {fd : FuncData} {ps : List Str} {n : Nat} {ds : List Value} {dvs : List V} (hb : Binds K fd ps ds) (hd : Vals dvs ds) (hn : n + ds.length = ps.length) : KBn K fd ps n [] (fun us _ => us ++ ds) (fun vs _ => vs ++ dvs) :=
  ⟨fun s us ws X l1 l2 => by
    have z := hb s us X (by rw [List.length_append, l1]; exact hn)
    rw [List.zip_nil_left]
    exact z, fun r _ => r.append hd⟩
theorem rvs_pos {γ : Gh} {vs zs : List V} {ds : List D} (hz : zs.length = ([] : List Str).length) (r : RVs γ (vs ++ zs) ds) : RVs γ vs ds := by
  cases zs with
  | nil => rwa [List.append_nil] at r
  | cons _ _ => cases hz
/-- a call by place -/
theorem RunSh.pos {fa : Addr} {fd : FuncData} {N ps : List Str} {body : List S} (F : FnG P w K mg base (L2.CX P w) lv fa fd ps (bodySp mg g N ps.length body)) (hb : Binds K fd ps []) : RunSh P w K mg base lv (.ref fa) ps.length [] (evF g ⟨N.length, ps.length, body⟩) :=
  RunSh.of_body (gD := id) F (KBn.pos hb) fun γ vs zs ds _ hz r => rvs_pos hz r
theorem rvs_ints (γ : Gh) : ∀ ns : List Int, RVs γ (ns.map V.int) (ns.map D.int)
  | [] => .nil
  | n :: ns => .cons rfl (rvs_ints γ ns)
/-- a law's end: the def called with a script -/
theorem law_sp {N : List Str} {ir : List S} {H : Hp} {a : Addr} {ns : List Int} {m : MS} (hN : 1 ≤ N.length) (nol : ∀ a o, K.lookup a = some o → o.cls ≠ .type "list") (hq : SqL K H a (ns.map V.int))
    (h : evSs g ir (some (.sh (.lst (ns.map .int))) :: List.replicate (N.length - 1) none) [] = .ret (.bl true) m) : bodySp mg g N 1 ir [.ref a] H (fun v _ => v = .bl true) (fun _ _ _ => False) := by
  refine ⟨rfl, ?_⟩
  rcases hq with hq | ⟨o, its, n, h1, h2, _⟩
  · have hrv : ∀ γ, RVs γ (ns.map V.int) (ns.map D.int) := fun γ => rvs_ints γ ns
    have hex : ∃ u, H a = some u := by
      rcases hq with q | ⟨o, q⟩
      · exact ⟨_, q⟩
      · exact ⟨_, q⟩
    obtain ⟨u, hu⟩ := hex
    let γ : Gh := ⟨[], fun b => if b = a then some (.lst (ns.map .int)) else none, fun b => if b = a then some u else none, 0⟩
    have hr : HR mg γ [] H := by
      refine ⟨fun b d q => ?_, rfl, List.nodup_nil, fun i c b q _ => ?_, fun b d q => ?_, fun b v q => ?_, fun b q => ?_⟩
      · have q' : (if b = a then some (D.lst (ns.map .int)) else none) = some d := q
        by_cases z : b = a
        · rw [if_pos z] at q'
          cases q'
          rw [z]
          exact ⟨_, hq, hrv _⟩
        · rw [if_neg z] at q'
          cases q'
      · cases q
      · have q' : (if b = a then some (D.lst (ns.map .int)) else none) = some d := q
        by_cases z : b = a
        · exact ⟨u, if_pos z⟩
        · rw [if_neg z] at q'
          cases q'
      · have q' : (if b = a then some u else none) = some v := q
        by_cases z : b = a
        · rw [if_pos z] at q'
          cases q'
          rw [z]
          exact ⟨hu, by simp [γ]⟩
        · rw [if_neg z] at q'
          cases q'
      · have q' : (if b = a then some (D.lst (ns.map .int)) else none) = none := q
        by_cases z : b = a
        · rw [if_pos z] at q'
          cases q'
        · exact if_neg z
    have rv : RVs γ [V.ref a] [D.lst (ns.map .int)] := .cons ⟨a, rfl, if_pos rfl⟩ .nil
    have sl := slR_start (mg := mg) (H := H) N rv
    exact ⟨γ, H, γ, _, [], ⟨.refl, hr, sl, fun i c b q _ => (noOw (ds := [D.lst (ns.map .int)]) q).elim⟩, by
      show PoS _ _ _ _ _ _ (evSs g ir (some (.sh (.lst (ns.map .int))) :: List.replicate (N.length - 1) none) [])
      rw [h]
      exact fun γ' v H' _ _ r => r⟩
  · exact absurd h2 (nol a o h1)
end
end DI
end

section
set_option linter.all false
set_option maxRecDepth 100000
set_option maxHeartbeats 4000000
/-! DI.S29: the head's facts by one Bool. -/
namespace DI
open PySem L2 He
open PyProof.Rows hiding St
def asZ (g : Addr → Option Obj) (n : Nat) : List Addr := He.asD g n ++ [cStatics]
def obsZ (n : Nat) (fn : List DefD) (ex : PySem.W.Frag → Bool) (g : Addr → Option Obj) : AlD := (ex (frG g (asZ g n)) && fn.all fun d => d.ok (frG g (asZ g n)), fn.map fun d => fnW (frG g (asZ g n)) d.at_)
structure SaysZ (fn : List DefD) (ex : PySem.W.Frag → Bool) (K : PySem.W.Frag) : Prop where
  ex : ex K = true
  fn : ∀ d ∈ fn, d.ok K = true ∧ fnW K d.at_ = d.val
theorem map_all {α β : Type} {f g : α → β} : ∀ {l : List α}, l.map f = l.map g → ∀ x ∈ l, f x = g x
  | a :: l, h, x, hx => by
    rw [List.map_cons, List.map_cons] at h
    injection h with h1 h2
    rcases List.mem_cons.mp hx with z | z
    · rw [z]; exact h1
    · exact map_all h2 x z
theorem saysZ_of {n : Nat} {fn : List DefD} {ex : PySem.W.Frag → Bool} {g : Addr → Option Obj} (e : obsZ n fn ex g = valD fn) : SaysZ fn ex (frG g (asZ g n)) := by
  have e1 : (ex (frG g (asZ g n)) && fn.all fun d => d.ok (frG g (asZ g n))) = true := congrArg (fun z : AlD => z.1) e
  have e2 : (fn.map fun d => fnW (frG g (asZ g n)) d.at_) = fn.map DefD.val := congrArg (fun z : AlD => z.2) e
  rw [Bool.and_eq_true, List.all_eq_true] at e1
  exact ⟨e1.1, fun d hd => ⟨e1.2 d hd, map_all e2 d hd⟩⟩
def hookZ (n : Nat) (fn : List DefD) (ex : PySem.W.Frag → Bool) : PySem.W.Hook where
  α := AlD
  obs := fun s => obsZ n fn ex s.heap.get?
  val := fun _ => valD fn
  says := fun _ h => ∃ K : PySem.W.Frag, K.In h ∧ SaysZ fn ex K
  of := fun _ _ e => ⟨_, frG_in, saysZ_of e⟩
  keeps := fun _ _ _ ⟨K, hK, c⟩ k => ⟨K, PySem.W.Frag.In.keeps hK k, c⟩
theorem obsZ_eq {n : Nat} {fn : List DefD} {ex : PySem.W.Frag → Bool} {g : Addr → Option Obj} {s : Shared} (h : ∀ a, g a = s.heap.get? a) : obsZ n fn ex g = (hookZ n fn ex).obs s := by
  have e : g = s.heap.get? := funext h
  rw [e] <;> rfl
theorem SaysZ.def_ {fn : List DefD} {ex : PySem.W.Frag → Bool} {K : PySem.W.Frag} (c : SaysZ fn ex K) {d : DefD} (h : d ∈ fn) : ∃ fd, FunD K d.name d.qual d.params d.body d.scope (d.dvs K) (d.kws K) (fAd K d.at_) fd := by
  obtain ⟨h1, h2⟩ := c.fn d h
  exact DefD.funD h2 h1
theorem law_callG {P : Program} {w : World} {K : PySem.W.Frag} {mg mb : Str → Option Value} {CX : CXT} {k : Nat} {fa a : Addr} {fd : FuncData} {x : Str} {sp : Sp} {s₁ : Shared} {vs : List Value} {ns : List Int}
    (KX : K.In s₁.heap) (hns : s₁.heap.Ns mainGlobals mg) (hb : s₁.heap.Ns builtinsNs mb) (hbb : ∀ x : Str, x ≠ "__name__" → mb x = bootBuiltins x) (hlim : s₁.heap.NoLimit) (hg : s₁.gens = #[])
    (ha : s₁.heap.get? a = some { cls := .type "list", data := .seq vs.toArray }) (hi : IntsAre vs ns) (hl : ns.length ≤ sizeLine) (hr : L2.Room k callerA)
    (F : ∀ base : Heap, K.In base → base.Ns mainGlobals mg → FnG P w K mg base CX k fa fd [x] sp) (hbind : ∀ (s : Shared) (u : Value), BindsTo s fd ⟨[u], []⟩ [(x, u)])
    (hsp : ∀ H : Hp, Only H → SqL K H a (ns.map V.int) → sp [.ref a] H (fun v _ => v = .bl true) fun _ _ _ => False)
    (hCX : ∀ H e s', CX [] H s₁ (fun _ _ _ => False) e s' → False) :
    codeAny (model P w) callerA (.call (.ref fa) ⟨[.ref a], []⟩) (fun r s' => r = .ok (.ret (.bool true)) ∧ OldK s₁.heap s'.heap ∧ s'.os = s₁.os ∧ AllBare s'.gens) s₁ := by
  have rv := vals_ints hi
  have lenV := hi.length
  -- from an abstract heap in which nothing but the script may be tracked
  have core : ∀ H : Hp, Only H → SqL K H a (ns.map V.int) → HOk P w H s₁.heap → (∀ b, H b ≠ none → b = a) → (H a ≠ none → K.lookup a = none) →
      codeAny (model P w) callerA (.call (.ref fa) ⟨[.ref a], []⟩) (fun r s' => r = .ok (.ret (.bool true)) ∧ OldK s₁.heap s'.heap ∧ s'.os = s₁.os ∧ AllBare s'.gens) s₁ := by
    intro H hO hS hok hA hK
    have base_of : ∀ {b : Addr} {o : Obj}, s₁.heap.get? b = some o → H b = none → (hidT s₁.heap H).get? b = some o := fun e n => hidT_get e n
    have noA : ∀ {b : Addr} {o : Obj} {es : Array DictEntry} {ep : Nat}, s₁.heap.get? b = some o → o.data = .dict es ep → H b = none := fun {b o es ep} e d => by
      cases q : H b with
      | none => rfl
      | some u =>
        have e' : b = a := hA b (by rw [q]; simp)
        subst e'
        rw [ha] at e; cases e
        have d' : Data.seq vs.toArray _ = Data.dict es ep := d
        cases d'
    have nsK : ∀ {b : Addr} {m : Str → Option Value}, s₁.heap.Ns b m → (hidT s₁.heap H).Ns b m := fun {b m} ⟨o, es, ep, e, d, r⟩ => ⟨o, es, ep, base_of e (noA e d), d, r⟩
    have hKb : K.In (hidT s₁.heap H) := fun b o e => base_of (KX b o e) (by
      cases q : H b with
      | none => rfl
      | some u =>
        have e' : b = a := hA b (by rw [q]; simp)
        subst e'
        rw [hK (by rw [q]; simp)] at e; cases e)
    have hM : Mod K mg (hidT s₁.heap H) := ⟨hKb, nsK hns, ⟨mb, nsK hb, hbb⟩, let ⟨mc, h1, h2⟩ := hlim; ⟨mc, nsK h1, h2⟩⟩
    have e0 : Env0 P w K mg (hidT s₁.heap H) callerA [] s₁ H := ⟨rfl, hM, fun b o e => of_hidT e, Nat.le_of_eq (hidT_size _ _), trivial, fun b hb => absurd (show b ∈ ([] : List Addr) from hb) (by simp), hok, .of_eq hg⟩
    refine codeAny_mono ((F _ hKb (nsK hns)).run callerA [] s₁ H ⟨[.ref a], []⟩ [.ref a] [.ref a] _ _ hr rfl e0 (hbind s₁ (.ref a)) (.cons rfl .nil) (hsp H hO hS)) fun r s' h => ?_
    cases r with
    | error e => exact (hCX H e s' h).elim
    | ok fl =>
      cases fl with
      | next => exact False.elim h
      | brk => exact False.elim h
      | cont => exact False.elim h
      | ret u =>
        obtain ⟨v, H', os, bare, un, hok', r', q⟩ := h
        have q' : v = .bl true := q
        subst q'
        obtain rfl : u = Value.bool true := r'
        refine ⟨rfl, OldK.of_keep fun b o e => ?_, os, bare⟩
        cases q : H b with
        | none => exact un.keep b o e q (by intro z; exact absurd (show b ∈ ([] : List Addr) from z) (by simp)) (by simp)
        | some u =>
          rcases hO b with z | ⟨ob, xs, z⟩
          · rw [q] at z; cases z
          · have z2 := un.frzs b ob _ z
            obtain ⟨e1, _⟩ := hok b _ z
            obtain ⟨e2, _⟩ := hok' b _ z2
            rw [e] at e1; cases e1
            exact e2
  cases hk : K.lookup a with
  | some o =>
    -- the script is one of the module's own objects
    have e := KX a o hk
    rw [ha] at e
    cases e
    refine core (fun _ => none) (fun _ => .inl rfl) (.inr ⟨_, vs.toArray, _, hk, rfl, rfl, rfl, by rw [List.size_toArray, lenV]; exact hl, by simpa using rv⟩) (fun b u z => by have z' : (none : Option HO) = some u := z; cases z') (fun b z => absurd rfl z) fun z => absurd rfl z
  | none =>
    refine core (fun b => if b = a then some (.frz { cls := .type "list", data := .seq vs.toArray } (.lst (ns.map V.int))) else none) (fun b => ?_) (.inl (.inr ⟨{ cls := .type "list", data := .seq vs.toArray }, if_pos rfl⟩)) (fun b u z => ?_) (fun b z => ?_) fun _ => hk
    · by_cases hb : b = a
      · exact .inr ⟨_, _, if_pos hb⟩
      · exact .inl (if_neg hb)
    · by_cases hb : b = a
      · have z' := (if_pos hb).symm.trans z
        cases z'
        subst hb
        exact ⟨ha, by rw [List.length_map]; exact hl, vs, _, rv, ha⟩
      · have z' := (if_neg hb).symm.trans z
        cases z'
    · by_cases hb : b = a
      · exact hb
      · exact absurd (if_neg hb) z

/-- a law's end by the checker's IR -/
theorem law_end {l : PySem.W.OpenLaw} {n k : Nat} {q : Program} {loose : List Str} {fn : List DefD} {ex : PySem.W.Frag → Bool} {r : Nat} {d : DefRec} {N : List Str} {ir : List S} {x : Str} {g : G} (hn : l.most = some n) (hn2 : n ≤ sizeLine) (hdf : d.params.defaults = []) (hr : L2.Room k callerA) (hN : 1 ≤ N.length)
    (nol : ∀ K, ex K = true → ∀ a o, K.lookup a = some o → o.cls ≠ .type "list")
    (F : ∀ (w : World) (mg : Str → Option Value) (fa : Addr) (h : Heap) (K : PySem.W.Frag), K.In h → SaysZ fn ex K → h.Ns mainGlobals mg → mg d.name = some (.ref fa) →
      ∃ fd : FuncData, (∀ (s : Shared) (u : Value), BindsTo s fd ⟨[u], []⟩ [(x, u)]) ∧ ∀ base : Heap, K.In base → base.Ns mainGlobals mg → FnG l.prog w K mg base (L2.CX l.prog w) k fa fd [x] (bodySp mg g N 1 ir))
    (law : ∀ ns : List Int, ns.length ≤ n → ∃ m, evSs g ir (some (.sh (.lst (ns.map .int))) :: List.replicate (N.length - 1) none) [] = .ret (.bl true) m) :
    PySem.W.WalkO q loose (PySem.W.XL q []) (hookZ r fn ex).says l.row.toRowW d [] (fun f vs => PySem.call f vs) := by
  refine Att.attach_call hn hdf fun w s₀ s₁ mg mb fa o pm cd doc a vs ns G Y ho hd hcd hmg hobj hints hlen hg => ?_
  obtain ⟨K, KX, c⟩ := Y
  obtain ⟨fd, hb, hF⟩ := F w mg fa _ K KX c G.T.g hmg
  refine law_callG KX G.T.g G.T.b G.T.builtins G.T.nolimit hg hobj hints (Nat.le_trans hlen hn2) hr hF hb (fun H hO hS => ?_) fun H e s' ⟨_, _, _, _, _, _, _, _, _, _, _, _, z⟩ => z
  obtain ⟨m, hm⟩ := law ns hlen
  exact law_sp (m := m) hN (nol K c.ex) hS hm
end DI
end

section
set_option linter.all false
set_option maxRecDepth 100000
set_option maxHeartbeats 1000000
/-! DI.S30: plain laws of the semantics. -/
namespace DI
open PySem L2
open PyProof.Rows hiding St
theorem whlN_succ {c : Sl → MS → Res D} {b : Sl → MS → Out} : ∀ {n : Nat} {σ : Sl} {m : MS}, whlN c b n σ m ≠ .stuck → whlN c b (n + 1) σ m = whlN c b n σ m
  | 0, σ, m, h => absurd rfl h
  | n + 1, σ, m, h => by
    have e : ∀ k, whlN c b (k + 1) σ m = (c σ m).out σ fun x m => match x with
        | .bl true => (match b σ m with
          | .nx σ m => whlN c b k σ m
          | .ct σ m => whlN c b k σ m
          | .brk σ m => .nx σ m
          | o => o)
        | .bl false => .nx σ m
        | _ => .stuck := fun k => rfl
    rw [e n] at h ⊢
    rw [e (n + 1)]
    cases hc : c σ m with
    | ok x m1 =>
      rw [hc] at h
      simp only [Res.out] at h ⊢
      cases x with
      | bl v =>
        cases v with
        | true =>
          simp only at h ⊢
          cases hb : b σ m1 with
          | nx s2 m2 => rw [hb] at h; exact whlN_succ h
          | ct s2 m2 => rw [hb] at h; exact whlN_succ h
          | brk s2 m2 => rfl
          | ret d m2 => rfl
          | exc x s2 m2 => rfl
          | stuck => rfl
        | false => rfl
      | _ => rfl
    | exc _ _ => rfl
    | stuck => rfl
theorem whlN_le {c : Sl → MS → Res D} {b : Sl → MS → Out} {n k : Nat} {σ : Sl} {m : MS} (h : whlN c b n σ m ≠ .stuck) : whlN c b (n + k) σ m = whlN c b n σ m := by
  induction k with
  | zero => rfl
  | succ k ih => rw [← ih, ← Nat.add_assoc, whlN_succ (by rw [ih]; exact h)]
/-- a loop is what any fuel that suffices tells -/
theorem whl_eq {c : Sl → MS → Res D} {b : Sl → MS → Out} {n : Nat} {σ : Sl} {m : MS} {r : Out} (h : whlN c b n σ m = r) (hr : r ≠ .stuck) : whl c b σ m = r := by
  have ex : ∃ n, whlN c b n σ m ≠ .stuck := ⟨n, by rw [h]; exact hr⟩
  unfold whl
  rw [dif_pos ex]
  have h1 := whlN_le (k := n) ex.choose_spec
  have h2 := whlN_le (n := n) (k := ex.choose) (by rw [h]; exact hr)
  rw [Nat.add_comm] at h2
  rw [← h1, h2, h]
end DI
end

section
set_option linter.all false
set_option maxRecDepth 100000
set_option maxHeartbeats 1000000
/-! DI.EV: the semantics as rules for simp, evaluated from the front. -/
namespace DI
open PySem L2
/-- two values changed -/
def sw {α : Type} : List α → List α
  | [a, b] => [b, a]
  | l => l
/-- a continuation that simp does not enter -/
inductive Tag {τ : Sort u} (a : τ) : Type where
  | mk
def Res.bX {α β : Type} (r : Res α) (f : α → MS → Res β) (_ : Tag f := .mk) : Res β := r.bind f
def Res.outX {α : Type} (σ : Sl) (r : Res α) (f : α → MS → Out) (_ : Tag f := .mk) : Out := r.out σ f
def forX (f : D → Sl → MS → Out) (xs : List D) (σ : Sl) (m : MS) (_ : Tag f := .mk) : Out := forL f xs σ m
/-- a turn of a for loop -/
noncomputable def forF (g : G) (t : T) (body : List S) (d : D) (σ : Sl) (m : MS) : Out := match asgT t d σ with
  | some σ => evSs g body σ m
  | none => .stuck
/-- a turn of a comprehension -/
noncomputable def compF (g : G) (t : T) (cs : List E) (elt : E) (σ : Sl) (d : D) (m : MS) : Res (Option D) := match asgT t d (wipeS σ t.slots) with
  | some σ => (evC g cs σ m).bX fun b m => if b then (evE g elt σ m).bX fun y m => .ok (some y) m else .ok none m
  | none => .stuck
noncomputable def compG (g : G) (t : T) (cs : List E) (k v : E) (σ : Sl) (d : D) (m : MS) : Res (Option D) := match asgT t d (wipeS σ t.slots) with
  | some σ => (evC g cs σ m).bX fun b m => if b then (evE g k σ m).bX fun x m => (evE g v σ m).bX fun y m => (match keyD x with | some _ => .ok (some (.tup [x, y])) m | none => .stuck) else .ok none m
  | none => .stuck
def compX (f : D → MS → Res (Option D)) (xs : List D) (m : MS) (_ : Tag f := .mk) : Res (List D) := compL f xs m
def Out.seq (o : Out) (k : Sl → MS → Out) (_ : Tag k := .mk) : Out := match o with
  | .nx σ m => k σ m
  | o => o
def Out.fin : Out → Res D
  | .ret d m => .ok d m
  | .nx _ m => .ok .non m
  | .exc e _ m => .exc e m
  | _ => .stuck
/-- a loop's round -/
def Out.rnd (o : Out) (k : Sl → MS → Out) (_ : Tag k := .mk) : Out := match o with
  | .nx σ m => k σ m
  | .ct σ m => k σ m
  | .brk σ m => .nx σ m
  | o => o
/-- a try's end -/
def Out.tr (o : Out) (k : Exc → Sl → MS → Out) (_ : Tag k := .mk) : Out := match o with
  | .exc e σ m => k e σ m
  | o => o
namespace Ev
section
section
variable {α β : Type} {g : G} {σ : Sl} {m : MS}
theorem bind_ok (a : α) (m : MS) (f : α → MS → Res β) : (Res.ok a m).bX f = f a m := rfl
theorem bind_exc (e : Exc) (m : MS) (f : α → MS → Res β) : (Res.exc e m : Res α).bX f = .exc e m := rfl
theorem out_ok (a : α) (m : MS) (f : α → MS → Out) : (Res.ok a m).outX σ f = f a m := rfl
theorem out_exc (e : Exc) (m : MS) (f : α → MS → Out) : (Res.exc e m : Res α).outX σ f = .exc e σ m := rfl
theorem whl_ok (a : α) (m : MS) (f : α → MS → Out) : (Res.ok a m).out σ f = f a m := rfl
theorem ee_0 (d) : evE g (.con d) σ m = .ok d m := by
  simp only [evE]
  try rfl
theorem ee_1 (x d) : evE g (.glo x d) σ m = .ok d m := by
  simp only [evE]
  try rfl
theorem ee_2 (i) : evE g (.var i) σ m = match σ[i]? with
    | some (some (.sh d)) => .ok d m
    | _ => .stuck := by
  simp only [evE]
  try rfl
theorem ee_3 (op a b) : evE g (.bin op a b) σ m = (evE g a σ m).bX fun x m => (evE g b σ m).bX fun y m => binD g op x y m := by
  simp only [evE]
  try rfl
theorem ee_4 (a b) : evE g (.addI a b) σ m = (evE g a σ m).bX fun x m => (evE g b σ m).bX fun y m => match x, y with
    | .int i, .int j => .ok (.int (i + j)) m
    | _, _ => .stuck := by
  simp only [evE]
  try rfl
theorem ee_5 (a) : evE g (.repr a) σ m = (evE g a σ m).bX fun x m => liftO (reprD x) m := by
  simp only [evE]
  try rfl
theorem ee_6 (a b) : evE g (.eqS a b) σ m = (evE g a σ m).bX fun x m => (evE g b σ m).bX fun y m => match x, y with
    | .str i, .str j => .ok (.bl (decide (i = j))) m
    | _, _ => .stuck := by
  simp only [evE]
  try rfl
theorem ee_7 (a) : evE g (.neg a) σ m = (evE g a σ m).bX fun x m => negD g x m := by
  simp only [evE]
  try rfl
theorem ee_8 (a) : evE g (.not a) σ m = (evE g a σ m).bX fun x m => match x with
    | .bl b => .ok (.bl !b) m
    | _ => .stuck := by
  simp only [evE]
  try rfl
theorem ee_9 (a b) : evE g (.and a b) σ m = (evE g a σ m).bX fun x m => match x with
    | .bl true => (evE g b σ m).bX fun y m => match y with
      | .bl c => .ok (.bl c) m
      | _ => .stuck
    | .bl false => .ok (.bl false) m
    | _ => .stuck := by
  simp only [evE]
  try rfl
theorem ee_10 (a b) : evE g (.or a b) σ m = (evE g a σ m).bX fun x m => match x with
    | .bl false => (evE g b σ m).bX fun y m => match y with
      | .bl c => .ok (.bl c) m
      | _ => .stuck
    | .bl true => .ok (.bl true) m
    | _ => .stuck := by
  simp only [evE]
  try rfl
theorem ee_11 (op a b) : evE g (.cmp op a b) σ m = (evE g a σ m).bX fun x m => (evE g b σ m).bX fun y m => cmpD g op x y m := by
  simp only [evE]
  try rfl
theorem ee_12 (o p a b c) : evE g (.cmp2 o p a b c) σ m = (evE g a σ m).bX fun x m => (evE g b σ m).bX fun y m => (cmpD g o x y m).bX fun r m => match r with
    | .bl true => (evE g c σ m).bX fun z m => cmpD g p y z m
    | .bl false => .ok (.bl false) m
    | _ => .stuck := by
  simp only [evE]
  try rfl
theorem ee_13 (ng a) : evE g (.isN ng a) σ m = (evE g a σ m).bX fun x m => .ok (.bl (match x with | .non => !ng | _ => ng)) m := by
  simp only [evE]
  try rfl
theorem ee_14 (c a b) : evE g (.ite c a b) σ m = (evE g c σ m).bX fun x m => match x with
    | .bl true => evE g a σ m
    | .bl false => evE g b σ m
    | _ => .stuck := by
  simp only [evE]
  try rfl
theorem ee_15 (a) : evE g (.star a) σ m = evE g a σ m := by
  simp only [evE]
  try rfl
theorem ee_16 (xs) : evE g (.tup xs) σ m = (evEs g xs σ m).bX fun ds m => if ds.length ≤ maxLen then .ok (.tup ds) m else .stuck := by
  simp only [evE]
  try rfl
theorem ee_17 (xs) : evE g (.lst xs) σ m = (evEs g xs σ m).bX fun ds m => if ds.length ≤ maxLen then .ok (.lst ds) m else .stuck := by
  simp only [evE]
  try rfl
theorem ee_18 (xs) : evE g (.lstM xs) σ m = (evEs g xs σ m).bX fun ds m => if ds.length ≤ maxLen then .ok (.ref m.length) (m ++ [.lst ds]) else .stuck := by
  simp only [evE]
  try rfl
theorem ee_19 (es) : evE g (.dct es) σ m = (evEs g es σ m).bX fun ds m => match pairsD ds with
    | some kvs => if kvs.length ≤ 15 then .ok (.dct (kvs.foldl (fun acc kv => put acc kv.1 kv.2) [])) m else .stuck
    | none => .stuck := by
  simp only [evE]
  try rfl
theorem ee_20 (a f) : evE g (.attr a f) σ m = (evE g a σ m).bX fun x m => liftO (attrD g x f m) m := by
  simp only [evE]
  try rfl
theorem ee_21 (mi a) : evE g (.prop mi a) σ m = (evE g a σ m).bX fun x m => match insOf m x, g.me[mi]? with
    | some (c, _), some tab => match tab.lookup c with
      | some f => f [x] m
      | none => .stuck
    | _, _ => .stuck := by
  simp only [evE]
  try rfl
theorem ee_22 (a b) : evE g (.idx a b) σ m = (evE g a σ m).bX fun x m => (evE g b σ m).bX fun y m => liftO (idxD x y m) m := by
  simp only [evE]
  try rfl
theorem ee_23 (i b) : evE g (.idxO i b) σ m = match σ[i]? with
    | some (some (.ow (.lst xs))) => (evE g b σ m).bX fun y m => match y with
      | .int j => liftO (atI xs j) m
      | _ => .stuck
    | _ => .stuck := by
  simp only [evE]
  try rfl
theorem ee_24 (i) : evE g (.lenO i) σ m = match σ[i]? with
    | some (some (.ow (.lst xs))) => .ok (.int xs.length) m
    | some (some (.ow (.dct xs))) => .ok (.int xs.length) m
    | _ => .stuck := by
  simp only [evE]
  try rfl
theorem ee_25 (i f) : evE g (.exA i f) σ m = match σ[i]? with
    | some (some (.ex e)) => if f = excAttr e.cls then liftO e.arg m else .stuck
    | _ => .stuck := by
  simp only [evE]
  try rfl
theorem ee_26 (a lo hi) : evE g (.slc a lo hi) σ m = (evE g a σ m).bX fun x m => (evO g lo σ m).bX fun l m => (evO g hi σ m).bX fun h m => liftO (slcD x l h m) m := by
  simp only [evE]
  try rfl
theorem ee_27 (k args kws) : evE g (.call k args kws) σ m = (evEs g args σ m).bX fun ds m => (evEs g kws σ m).bX fun es m => callD (g.fn[k]?) args.length kws.length [] ds es m := by
  simp only [evE]
  try rfl
theorem ee_28 (mi nm o args kws) : evE g (.meth mi nm o args kws) σ m = (evE g o σ m).bX fun x m => match methD g mi nm x m with
    | some f => (evEs g args σ m).bX fun ds m => (evEs g kws σ m).bX fun es m => callD (some f) args.length kws.length [x] ds es m
    | none => .stuck := by
  simp only [evE]
  try rfl
theorem ee_29 (b args) : evE g (.bi b args) σ m = (evEs g args σ m).bX fun ds m => liftO (biD b ds m) m := by
  simp only [evE]
  try rfl
theorem ee_30 (a tys) : evE g (.inst a tys) σ m = (evE g a σ m).bX fun x m => match tyN m x with
    | some k => .ok (.bl (tys.any (kdIs k))) m
    | none => .stuck := by
  simp only [evE]
  try rfl
theorem es_0  : evEs g ([]) σ m = .ok [] m := by
  simp only [evEs]
  try rfl
theorem es_1 (e es) : evEs g (e :: es) σ m = (evE g e σ m).bX fun x m => (liftO (splD e x m) m).bX fun ys m => (evEs g es σ m).bX fun r m => .ok (ys ++ r) m := by
  simp only [evEs]
  try rfl
theorem eo_0  : evO g (none) σ m = .ok none m := by
  simp only [evO]
  try rfl
theorem eo_1 (e) : evO g (some e) σ m = (evE g e σ m).bX fun x m => match x with
    | .int i => .ok (some i) m
    | _ => .stuck := by
  simp only [evO]
  try rfl
theorem ec_0  : evC g ([]) σ m = .ok true m := by
  simp only [evC]
  try rfl
theorem ec_1 (e es) : evC g (e :: es) σ m = (evE g e σ m).bX fun x m => match x with
    | .bl true => evC g es σ m
    | .bl false => .ok false m
    | _ => .stuck := by
  simp only [evC]
  try rfl
theorem ei_0 (a) : evIt g (.seq a) σ m = (evE g a σ m).bX fun x m => liftO (itemsD x) m := by
  simp only [evIt]
  try rfl
theorem ei_1 (a) : evIt g (.rng a) σ m = (evE g a σ m).bX fun x m => match x with
    | .int i => liftO (rngD 0 i) m
    | _ => .stuck := by
  simp only [evIt]
  try rfl
theorem ei_2 (a b) : evIt g (.rng2 a b) σ m = (evE g a σ m).bX fun x m => (evE g b σ m).bX fun y m => match x, y with
    | .int i, .int j => liftO (rngD i j) m
    | _, _ => .stuck := by
  simp only [evIt]
  try rfl
theorem ei_3 (a b) : evIt g (.zip a b) σ m = (evE g a σ m).bX fun x m => (evE g b σ m).bX fun y m => match x, y with
    | .lst xs, .lst ys => .ok ((xs.zip ys).map fun p => .tup [p.1, p.2]) m
    | _, _ => .stuck := by
  simp only [evIt]
  try rfl
theorem ei_4 (a) : evIt g (.enum a) σ m = (evE g a σ m).bX fun x m => match x with
    | .lst xs => .ok (xs.zipIdx.map fun p => .tup [.int p.2, p.1]) m
    | _ => .stuck := by
  simp only [evIt]
  try rfl
theorem ei_5 (a) : evIt g (.items a) σ m = (evE g a σ m).bX fun x m => match x with
    | .dct kvs => .ok (kvs.map fun kv => .tup [keyOf kv.1, kv.2]) m
    | _ => .stuck := by
  simp only [evIt]
  try rfl
theorem ei_6 (a) : evIt g (.vals a) σ m = (evE g a σ m).bX fun x m => match x with
    | .dct kvs => .ok (kvs.map (·.2)) m
    | _ => .stuck := by
  simp only [evIt]
  try rfl
theorem st_0 (e) : evS g (.expr e) σ m = (evE g e σ m).outX σ fun _ m => .nx σ m := by
  simp only [evS]
  try rfl
theorem st_1 (t e) : evS g (.asg t e) σ m = (evE g e σ m).outX σ fun d m => nxO (asgT t d σ) m := by
  simp only [evS]
  try rfl
theorem st_2 (i xs) : evS g (.newL i xs) σ m = (evEs g xs σ m).outX σ fun ds m => if ds.length ≤ maxLen then .nx (σ.set i (some (.ow (.lst ds)))) m else .stuck := by
  simp only [evS]
  try rfl
theorem st_3 (i) : evS g (.newD i) σ m = .nx (σ.set i (some (.ow (.dct [])))) m := by
  simp only [evS]
  try rfl
theorem st_4 (i k v) : evS g (.setV i k v) σ m = (evE g v σ m).outX σ fun d m => (evE g k σ m).outX σ fun x m => ownS i σ m fun c => setD c x d := by
  simp only [evS]
  try rfl
theorem st_5 (i e) : evS g (.appV i e) σ m = match σ[i]? with
    | some (some (.ow (.lst xs))) => (evE g e σ m).outX σ fun d m => if xs.length < maxLen then .nx (σ.set i (some (.ow (.lst (xs ++ [d]))))) m else .stuck
    | _ => .stuck := by
  simp only [evS]
  try rfl
theorem st_6 (i f e) : evS g (.atV i f e) σ m = (evE g e σ m).outX σ fun d m => ownS i σ m fun c => attD g c f d := by
  simp only [evS]
  try rfl
theorem st_7 (o k v) : evS g (.setR o k v) σ m = (evE g v σ m).outX σ fun d m => (evE g o σ m).outX σ fun x m => (evE g k σ m).outX σ fun y m => cellS x σ m fun c => setL c y d := by
  simp only [evS]
  try rfl
theorem st_8 (o e) : evS g (.appR o e) σ m = (evE g o σ m).outX σ fun x m => (evE g e σ m).outX σ fun d m => cellS x σ m fun c => appD c d := by
  simp only [evS]
  try rfl
theorem st_9 (o f e) : evS g (.atR o f e) σ m = (evE g e σ m).outX σ fun d m => (evE g o σ m).outX σ fun x m => cellS x σ m fun c => attD g c f d := by
  simp only [evS]
  try rfl
theorem st_10 (i) : evS g (.frz i) σ m = match σ[i]? with
    | some (some (.ow c)) => match frzD c with
      | some d => .nx (σ.set i (some (.sh d))) m
      | none => .stuck
    | _ => .stuck := by
  simp only [evS]
  try rfl
theorem st_11 (e) : evS g (.ret e) σ m = (evE g e σ m).outX σ fun d m => .ret d m := by
  simp only [evS]
  try rfl
theorem st_12  : evS g (.retN) σ m = .ret .non m := by
  simp only [evS]
  try rfl
theorem st_13 (i) : evS g (.retO i) σ m = match σ[i]? with
    | some (some (.ow (.lst xs))) => .ret (.lst xs) m
    | _ => .stuck := by
  simp only [evS]
  try rfl
theorem st_14 (c a b) : evS g (.ite c a b) σ m = (evE g c σ m).outX σ fun x m => match x with
    | .bl true => evSs g a σ m
    | .bl false => evSs g b σ m
    | _ => .stuck := by
  simp only [evS]
  try rfl
theorem st_17  : evS g (.brk) σ m = .brk σ m := by
  simp only [evS]
  try rfl
theorem st_18  : evS g (.cont) σ m = .ct σ m := by
  simp only [evS]
  try rfl
theorem st_19  : evS g (.pass) σ m = .nx σ m := by
  simp only [evS]
  try rfl
theorem st_20 (c args) : evS g (.raise c args) σ m = (evEs g args σ m).outX σ fun ds m => if ds.length = args.length then (match ds with
    | [] => .exc ⟨c, none⟩ σ m
    | [d] => .exc ⟨c, some d⟩ σ m
    | _ => .stuck) else .stuck := by
  simp only [evS]
  try rfl
end
variable {g : G} {σ : Sl} {m : MS}
theorem seq_nx (σ : Sl) (m : MS) (k : Sl → MS → Out) : (Out.nx σ m).seq k = k σ m := rfl
theorem seq_ret (d : D) (m : MS) (k : Sl → MS → Out) : (Out.ret d m).seq k = .ret d m := rfl
theorem seq_exc (e : Exc) (σ : Sl) (m : MS) (k : Sl → MS → Out) : (Out.exc e σ m).seq k = .exc e σ m := rfl
theorem seq_brk (σ : Sl) (m : MS) (k : Sl → MS → Out) : (Out.brk σ m).seq k = .brk σ m := rfl
theorem seq_ct (σ : Sl) (m : MS) (k : Sl → MS → Out) : (Out.ct σ m).seq k = .ct σ m := rfl
theorem rnd_nx (σ : Sl) (m : MS) (k : Sl → MS → Out) : (Out.nx σ m).rnd k = k σ m := rfl
theorem rnd_ct (σ : Sl) (m : MS) (k : Sl → MS → Out) : (Out.ct σ m).rnd k = k σ m := rfl
theorem rnd_brk (σ : Sl) (m : MS) (k : Sl → MS → Out) : (Out.brk σ m).rnd k = .nx σ m := rfl
theorem rnd_ret (d : D) (m : MS) (k : Sl → MS → Out) : (Out.ret d m).rnd k = .ret d m := rfl
theorem rnd_exc (e : Exc) (σ : Sl) (m : MS) (k : Sl → MS → Out) : (Out.exc e σ m).rnd k = .exc e σ m := rfl
theorem tr_nx (σ : Sl) (m : MS) (k : Exc → Sl → MS → Out) : (Out.nx σ m).tr k = .nx σ m := rfl
theorem tr_ret (d : D) (m : MS) (k : Exc → Sl → MS → Out) : (Out.ret d m).tr k = .ret d m := rfl
theorem tr_exc (e : Exc) (σ : Sl) (m : MS) (k : Exc → Sl → MS → Out) : (Out.exc e σ m).tr k = k e σ m := rfl
theorem fin_ret (d : D) (m : MS) : (Out.ret d m).fin = .ok d m := rfl
theorem fin_nx (σ : Sl) (m : MS) : (Out.nx σ m).fin = .ok .non m := rfl
theorem fin_exc (e : Exc) (σ : Sl) (m : MS) : (Out.exc e σ m).fin = .exc e m := rfl
theorem ss_nil : evSs g [] σ m = .nx σ m := by simp only [evSs]
theorem ss_cons (s : S) (ss : List S) : evSs g (s :: ss) σ m = (evS g s σ m).seq (fun σ m => evSs g ss σ m) := by
  simp only [evSs]
  cases evS g s σ m <;> rfl
theorem st_try (b : List S) (hs : List (Str × Option Nat × List S)) : evS g (.try_ b hs) σ m = (evSs g b σ m).tr (fun e σ m => evH g hs e σ m) := by
  simp only [evS]
  cases evSs g b σ m <;> rfl
theorem st_for (t : T) (it : It) (body : List S) : evS g (.for_ t it body) σ m = (evIt g it σ m).outX σ fun xs m => forX (forF g t body) xs σ m := by
  simp only [evS]
  rfl
theorem forF_ap (t : T) (body : List S) (d : D) {σ' : Sl} (h : asgT t d σ = some σ') : forF g t body d σ m = evSs g body σ' m := by
  unfold forF
  rw [h]
theorem forF_eq (t : T) (body : List S) (d : D) : forF g t body d σ m = (match asgT t d σ with
  | some σ => evSs g body σ m
  | none => .stuck) := rfl
theorem forX_cons (f : D → Sl → MS → Out) (x : D) (xs : List D) : forX f (x :: xs) σ m = (f x σ m).rnd (fun σ m => forX f xs σ m) := by
  unfold forX
  simp only [forL]
  cases f x σ m <;> rfl
theorem forX_nil (f : D → Sl → MS → Out) : forX f [] σ m = .nx σ m := rfl
theorem e_lcomp (elt : E) (t : T) (it : It) (cs : List E) : evE g (.lcomp elt t it cs) σ m = (evIt g it σ m).bX fun xs m => if xs.length ≤ maxLen then (compX (compF g t cs elt σ) xs m).bX fun ys m => .ok (.lst ys) m else .stuck := by
  simp only [evE]
  rfl
theorem e_dcomp (k v : E) (t : T) (it : It) (cs : List E) : evE g (.dcomp k v t it cs) σ m = (evIt g it σ m).bX fun xs m => if xs.length ≤ maxLen then (compX (compG g t cs k v σ) xs m).bX fun ys m => .ok (.dct (dctOf ys)) m else .stuck := by
  simp only [evE]
  rfl
theorem compF_eq (t : T) (cs : List E) (elt : E) (d : D) : compF g t cs elt σ d m = (match asgT t d (wipeS σ t.slots) with
  | some σ => (evC g cs σ m).bX fun b m => if b then (evE g elt σ m).bX fun y m => .ok (some y) m else .ok none m
  | none => .stuck) := rfl
theorem compG_eq (t : T) (cs : List E) (k v : E) (d : D) : compG g t cs k v σ d m = (match asgT t d (wipeS σ t.slots) with
  | some σ => (evC g cs σ m).bX fun b m => if b then (evE g k σ m).bX fun x m => (evE g v σ m).bX fun y m => (match keyD x with | some _ => .ok (some (.tup [x, y])) m | none => .stuck) else .ok none m
  | none => .stuck) := rfl
theorem compX_nil (f : D → MS → Res (Option D)) : compX f [] m = .ok [] m := rfl
theorem compX_cons (f : D → MS → Res (Option D)) (x : D) (xs : List D) : compX f (x :: xs) m = (noX (f x m)).bX fun o m => (compX f xs m).bX fun r m => .ok (match o with | some y => y :: r | none => r) m := rfl
theorem noX_ok {α : Type} (a : α) : noX (.ok a m) = .ok a m := rfl
theorem evF_eq (n ps : Nat) (body : List S) (args : List D) : evF g ⟨n, ps, body⟩ args m = if args.length = ps then (evSs g body (args.map (fun d => some (.sh d)) ++ List.replicate (n - ps) none) m).fin else .stuck := by
  simp only [evF]
  split
  · cases evSs g body (args.map (fun d => some (.sh d)) ++ List.replicate (n - ps) none) m <;> rfl
  · rfl
theorem nxO_some (s : Sl) : nxO (some s) m = .nx s m := rfl
theorem asg_var (i : Nat) (d : D) : asgT (.var i) d σ = some (σ.set i (some (.sh d))) := rfl
theorem asg_tup (ts : List T) (xs : List D) : asgT (.tup ts) (.tup xs) σ = if ts.length = xs.length then asgTs ts xs σ else none := rfl
theorem asg_lst (ts : List T) (xs : List D) : asgT (.tup ts) (.lst xs) σ = if ts.length = xs.length then asgTs ts xs σ else none := rfl
theorem asgs_nil (xs : List D) : asgTs [] xs σ = some σ := rfl
theorem asgs_cons (t : T) (ts : List T) (x : D) (xs : List D) : asgTs (t :: ts) (x :: xs) σ = (asgT t x σ).bind fun σ => asgTs ts xs σ := rfl
theorem obind {α β : Type} (a : α) (f : α → Option β) : (some a).bind f = f a := rfl
theorem lift_some {α : Type} (a : α) : liftO (some a) m = .ok a m := rfl
theorem lift_none {α : Type} : liftO (none : Option α) m = .stuck := rfl
theorem call_some (f : DI.Sem) (n k : Nat) (first ds es : List D) : callD (some f) n k first ds es m = if ds.length = n ∧ es.length = k then f (first ++ (ds ++ es)) m else .stuck := rfl
theorem bin_add (i j : Int) : binD g .add (.int i) (.int j) m = .ok (.int (i + j)) m := rfl
theorem bin_sub (i j : Int) : binD g .sub (.int i) (.int j) m = .ok (.int (i - j)) m := rfl
theorem bin_mul {i j : Int} (h : mulOk i j) : binD g .mul (.int i) (.int j) m = .ok (.int (i * j)) m := by simp [binD, intBin, h]
theorem bin_fdiv {i j : Int} (h : divOk j) : binD g .fdiv (.int i) (.int j) m = .ok (.int (i.fdiv j)) m := by simp [binD, intBin, h]
theorem bin_mod {i j : Int} (h : j ≠ 0) : binD g .mod (.int i) (.int j) m = .ok (.int (i.fmod j)) m := by simp [binD, intBin, h]
theorem bin_pow {i : Int} {k : Nat} (h : k ≤ 100) (h2 : i.natAbs < 2 ^ 1000) : binD g .pow (.int i) (.int k) m = .ok (.int (i ^ k)) m := by
  have : (0 : Int) ≤ k ∧ (k : Int) ≤ 100 ∧ i.natAbs < 2 ^ 1000 := ⟨by omega, by omega, h2⟩
  simp only [binD, intBin, if_pos this]
  rfl
theorem bin_ll {xs ys : List D} (h : xs.length + ys.length ≤ maxLen) : binD g .add (.lst xs) (.lst ys) m = .ok (.lst (xs ++ ys)) m := by simp [binD, h]
theorem bin_ss {a b : Str} (h : a.length + b.length ≤ maxLen) : binD g .add (.str a) (.str b) m = .ok (.str (a ++ b)) m := by simp [binD, h]
theorem negD_int (i : Int) : negD g (.int i) m = .ok (.int (-i)) m := rfl
theorem cmp_lt (i j : Int) : cmpD g .lt (.int i) (.int j) m = .ok (.bl (decide (i < j))) m := rfl
theorem cmp_le (i j : Int) : cmpD g .le (.int i) (.int j) m = .ok (.bl (decide (i ≤ j))) m := rfl
theorem cmp_gt (i j : Int) : cmpD g .gt (.int i) (.int j) m = .ok (.bl (decide (j < i))) m := rfl
theorem cmp_ge (i j : Int) : cmpD g .ge (.int i) (.int j) m = .ok (.bl (decide (j ≤ i))) m := rfl
theorem eqD_P {n : Nat} {x y : D} {p q : PyData} (h : toP 9 x = some p) (h2 : toP 9 y = some q) : eqD g (n + 1) x y m = .ok (PyData.eqv p q) m := by
  unfold eqD
  rw [h, h2]
theorem cmp_eqP {x y : D} {p q : PyData} (h : toP 9 x = some p) (h2 : toP 9 y = some q) : cmpD g .eq x y m = .ok (.bl (PyData.eqv p q)) m := by
  have := eqD_P (g := g) (n := 5) (m := m) h h2
  simp only [cmpD, eqFuel, this]
theorem cmp_neP {x y : D} {p q : PyData} (h : toP 9 x = some p) (h2 : toP 9 y = some q) : cmpD g .ne x y m = .ok (.bl !(PyData.eqv p q)) m := by
  have := eqD_P (g := g) (n := 5) (m := m) h h2
  simp only [cmpD, eqFuel, this]
theorem int_eqv (i j : Int) : PyData.eqv (.int i) (.int j) = decide (i = j) := by
  simp only [PyData.eqv]
  rw [Bool.eq_iff_iff]
  simp
theorem cmp_eqI (i j : Int) : cmpD g .eq (.int i) (.int j) m = .ok (.bl (decide (i = j))) m := by
  rw [cmp_eqP (p := .int i) (q := .int j) rfl rfl, int_eqv]
theorem cmp_neI (i j : Int) : cmpD g .ne (.int i) (.int j) m = .ok (.bl !(decide (i = j))) m := by
  rw [cmp_neP (p := .int i) (q := .int j) rfl rfl, int_eqv]
theorem cmp_eqB (i j : Bool) : cmpD g .eq (.bl i) (.bl j) m = .ok (.bl (i == j)) m := by
  rw [cmp_eqP (p := .bool i) (q := .bool j) rfl rfl]
  simp only [PyData.eqv]
theorem cmp_neB (i j : Bool) : cmpD g .ne (.bl i) (.bl j) m = .ok (.bl !(i == j)) m := by
  rw [cmp_neP (p := .bool i) (q := .bool j) rfl rfl]
  simp only [PyData.eqv]
theorem pair_eqv (a b c d : Int) : PyData.eqv (.tuple [.int a, .int b]) (.tuple [.int c, .int d]) = decide (a = c ∧ b = d) := by
  have e : PyData.eqv (.tuple [.int a, .int b]) (.tuple [.int c, .int d]) = (PyData.eqv (.int a) (.int c) && (PyData.eqv (.int b) (.int d) && true)) := by
    simp only [PyData.eqv, PyData.eqvAll]
  rw [e, int_eqv, int_eqv, Bool.eq_iff_iff]
  simp
theorem cmp_eqT (a b c d : Int) : cmpD g .eq (.tup [.int a, .int b]) (.tup [.int c, .int d]) m = .ok (.bl (decide (a = c ∧ b = d))) m := by
  rw [cmp_eqP (p := .tuple [.int a, .int b]) (q := .tuple [.int c, .int d]) rfl rfl, pair_eqv]
end
end Ev
end DI
end

section
set_option linter.all false
set_option maxRecDepth 100000
set_option maxHeartbeats 4000000
/-! DI.S31: calls with keywords. -/
namespace DI
open PySem L2 He
open PyProof.Rows hiding St
theorem nol_ok {t : Tx} {K : PySem.W.Frag} (hb : baseB t K = true) : ∀ a o, K.lookup a = some o → o.cls ≠ .type "list" := by
  simp only [baseB, Bool.and_eq_true] at hb
  obtain ⟨_, _, _, _, _, _, _, h8, _⟩ := hb
  intro a o h
  have z := List.all_eq_true.mp h8 (a, o) (mem_lookup h)
  simpa using z
section
variable {P : Program} {w : World} {K : PySem.W.Frag} {mg : Str → Option Value} {base : Heap} {lv : Nat} {g : G}
theorem kwN {x qual : Str} {params : Arguments} {body : List Stmt} {scope : Scope} {kws : List (Str × V)} {f : Addr} {fd : FuncData} {ps : List Str} (F : FunD K x qual params body scope [] kws f fd) (n : Nat) (ks : List Str) (g : {α : Type} → List α → List α → List α)
    (hrel : ∀ {vs zs : List V} {us ws : List Value}, vs.length = n → zs.length = ks.length → Vals vs us → Vals zs ws → Vals (g vs zs) (g us ws))
    (hr2 : ∀ {vs zs : List V} {us ws : List Value}, Vals vs us → Vals zs ws → Vals (g vs zs) (g us ws))
    (h : ∀ (kV doc pm : Value) (an : Option Addr) (cdv ct : Value) (us ws : List Value), us.length = n → ws.length = ks.length → bindArgs (PySem.W.fnOf x qual params body scope .none kV doc pm an cdv ct) ⟨us, ks.zip ws⟩ = pure (ps.zip (g us ws))) : KBn K fd ps n ks (fun us ws => g us ws) (fun vs zs => g vs zs) := by
  obtain ⟨oc, od, dV, kV, doc, pm, an, cdv, ct, osl, rfl, lk, hcd, hD, hK⟩ := F.ex
  rcases hD with ⟨_, rfl⟩ | ⟨e, _⟩
  · exact ⟨fun s us ws X l1 l2 => .of_eq (h kV doc pm an cdv ct us ws l1 l2), hr2⟩
  · exact absurd rfl e
theorem vals_sw {zs : List V} {ws : List Value} (h : Vals zs ws) : Vals (sw zs) (sw ws) := by
  cases h with
  | nil => exact .nil
  | cons a h => cases h with
    | nil => exact .cons a .nil
    | cons b h => cases h with
      | nil => exact .cons b (.cons a .nil)
      | cons c h => exact .cons a (.cons b (.cons c h))
theorem rvs_sw {γ : Gh} {zs : List V} {ds : List D} (h : RVs γ zs ds) : RVs γ (sw zs) (sw ds) := by
  cases h with
  | nil => exact .nil
  | cons a h => cases h with
    | nil => exact .cons a .nil
    | cons b h => cases h with
      | nil => exact .cons b (.cons a .nil)
      | cons c h => exact .cons a (.cons b (.cons c h))
/-- a call by name, in the order of the parameters -/
theorem RunSh.kwA {fa : Addr} {fd : FuncData} {N ps : List Str} {body : List S} (n : Nat) (ks : List Str) (F : FnG P w K mg base (L2.CX P w) lv fa fd ps (bodySp mg g N ps.length body)) (hb : KBn K fd ps n ks (fun us ws => us ++ ws) (fun vs zs => vs ++ zs)) : RunSh P w K mg base lv (.ref fa) n ks (evF g ⟨N.length, ps.length, body⟩) :=
  RunSh.of_body (gD := id) F hb fun γ vs zs ds _ _ r => r
end
end DI
end

section
set_option linter.all false
set_option maxRecDepth 100000
set_option maxHeartbeats 4000000
/-! DI.S32: what stands around the defs of a text, of any law. -/
namespace DI
open PySem L2 He
open PyProof.Rows hiding St
/-- a text: classes and errors, defs, names, classes with ==, reflected operators that lack -/
structure Tp where
  tx : Tx
  fn : List DefD
  fa : List Fa
  nes : List Str
  rops : List (Str × Str)
def Tp.ex (t : Tp) (K : PySem.W.Frag) : Bool := t.fa.all (fun f => f.ok K) && (baseB t.tx K && (loanB K && (t.tx.errs.all (fun e => oexB K (ga K e) && initB K e) &&
  (t.nes.all (fun c => decide (PySem.W.findIn K (.ref (ga K c)) "__ne__" = some (some (.builtin "object.__ne__")))) && t.rops.all fun p => decide (PySem.W.findIn K (.ref (ga K p.1)) p.2 = some none)))))
structure Ctx (t : Tp) (P : Program) (w : World) (K : PySem.W.Frag) (mg : Str → Option Value) (base : Heap) : Prop where
  c : SaysZ t.fn t.ex K
  B : Base t.tx K mg
  glo : ∀ f ∈ t.fa, f.ok K = true
  mg : ∀ x, Fa.glo x ∈ t.fa → mg x = some (.ref (ga K x))
/-- a def's shape of calls, and what they do -/
abbrev FnE (P : Program) (w : World) (K : PySem.W.Frag) (mg : Str → Option Value) (base : Heap) (lv : Nat) (sh : Str × Nat × List Str) (f : Sem) : Prop := ∃ u, mg sh.1 = some u ∧ PySem.W.keepIn K u = true ∧ RunSh P w K mg base lv u sh.2.1 sh.2.2 f
def MeE (P : Program) (w : World) (K : PySem.W.Frag) (mg : Str → Option Value) (base : Heap) (lv : Nat) (sh : Str × Nat × List Str) (tab : List (Nat × Sem)) : Prop := ∀ c f, tab.lookup c = some f → MethSh P w K mg base lv c sh.1 sh.2.1 sh.2.2 f
section
variable {t : Tp} {P : Program} {w : World} {K : PySem.W.Frag} {mg : Str → Option Value} {base : Heap} {lv : Nat} {g : G}
theorem FnE_mono {lv k : Nat} {sh : Str × Nat × List Str} {f : Sem} (h : FnE P w K mg base lv sh f) (hk : lv ≤ k) : FnE P w K mg base k sh f := by
  obtain ⟨u, h1, h2, h3⟩ := h
  exact ⟨u, h1, h2, h3.mono hk⟩
theorem MethSh_mono {lv k c n : Nat} {nm : Str} {ks : List Str} {f : Sem} (h : MethSh P w K mg base lv c nm n ks f) (hk : lv ≤ k) : MethSh P w K mg base k c nm n ks f := by
  obtain ⟨C, fa, h1, h2, h3⟩ := h
  exact ⟨C, fa, h1, h2, h3.mono hk⟩
theorem lk1 {f g : Sem} {a c : Nat} (h : ([(a, f)] : List (Nat × Sem)).lookup c = some g) : c = a ∧ g = f := by
  rw [List.lookup_cons] at h
  split at h
  · rename_i e
    cases h
    exact ⟨by simpa using e, rfl⟩
  · cases h
theorem MeE.one {c : Nat} {nm : Str} {n : Nat} {ks : List Str} {f : Sem} {lv k : Nat} (h : MethSh P w K mg base lv c nm n ks f) (hk : lv ≤ k) : MeE P w K mg base k (nm, n, ks) [(c, f)] := fun c' f' e => by
  obtain ⟨rfl, rfl⟩ := lk1 e
  exact MethSh_mono h hk
theorem MeE.two {c d : Nat} {nm : Str} {n : Nat} {ks : List Str} {f f2 : Sem} {lv l2 k : Nat} (h : MethSh P w K mg base lv c nm n ks f) (h2 : MethSh P w K mg base l2 d nm n ks f2) (hk : lv ≤ k) (hk2 : l2 ≤ k) : MeE P w K mg base k (nm, n, ks) [(c, f), (d, f2)] := fun c' f' e => by
  rw [List.lookup_cons] at e
  split at e
  · rename_i z
    cases e
    have : c' = c := by simpa using z
    subst this
    exact MethSh_mono h hk
  · obtain ⟨rfl, rfl⟩ := lk1 e
    exact MethSh_mono h2 hk2
theorem Ctx.ok0 (C : Ctx t P w K mg base) (h1 : g.add = [] ∧ g.sub = [] ∧ g.mul = [] ∧ g.neg = [] ∧ g.eq = [] ∧ g.lt = [] ∧ g.le = []) (hf : ∀ p ∈ g.fld, p ∈ t.tx.flds) : Ok0 g lv P w K mg base := by
  obtain ⟨a1, a2, a3, a4, a5, a6, a7⟩ := h1
  refine C.B.ok0 hf (fun op c f h => ?_) (fun c f h => ?_) (fun c f h => ?_) (fun op c f h => ?_)
  · cases op <;> simp [opTab, a1, a2, a3] at h
  · simp [a4] at h
  · simp [a5] at h
  · cases op <;> simp [ltTab, a6, a7] at h
theorem paired_at {α β : Type} {R : α → β → Prop} : ∀ {as : List α} {bs : List β} {i : Nat} {a : α}, Paired R as bs → as[i]? = some a → ∃ b, bs[i]? = some b ∧ R a b
  | _, _, i, a, .nil, h => by simp at h
  | _, _, 0, a, .cons r _, h => by simp at h; subst h; exact ⟨_, rfl, r⟩
  | _, _, i + 1, a, .cons _ t, h => by
    obtain ⟨b, h1, h2⟩ := paired_at (i := i) t (by simpa using h)
    exact ⟨b, by simpa using h1, h2⟩
theorem Ctx.envB {fsh msh : List (Str × Nat × List Str)} (C : Ctx t P w K mg base) (h : Paired (FnE P w K mg base lv) fsh g.fn) (hm : Paired (MeE P w K mg base lv) msh g.me) : EnvB fsh msh t.tx.cs g lv P w K mg base :=
  C.B.envB (fun i x n ks q => by
    obtain ⟨f, h1, u, h2, h3, h4⟩ := paired_at h q
    exact ⟨f, u, h1, h2, h3, h4⟩) (fun mi nm n ks q tab c f h1 h2 => by
    obtain ⟨tab', e1, e2⟩ := paired_at hm q
    rw [h1] at e1
    cases e1
    exact e2 c f h2)
theorem Ctx.errF (C : Ctx t P w K mg base) {e : Str} (he : e ∈ t.tx.errs) : loanB K = true ∧ oexB K (ga K e) = true ∧ initB K e = true := by
  have h := C.c.ex
  simp only [Tp.ex, Bool.and_eq_true] at h
  have z := List.all_eq_true.mp h.2.2.2.1 e he
  rw [Bool.and_eq_true] at z
  exact ⟨h.2.2.1, z.1, z.2⟩
theorem Ctx.ne (C : Ctx t P w K mg base) {c : Str} (h : c ∈ t.nes) : PySem.W.findIn K (.ref (ga K c)) "__ne__" = some (some (.builtin "object.__ne__")) := by
  have z := C.c.ex
  simp only [Tp.ex, Bool.and_eq_true] at z
  simpa using List.all_eq_true.mp z.2.2.2.2.1 c h
theorem Ctx.rop (C : Ctx t P w K mg base) {p : Str × Str} (h : p ∈ t.rops) : PySem.W.findIn K (.ref (ga K p.1)) p.2 = some none := by
  have z := C.c.ex
  simp only [Tp.ex, Bool.and_eq_true] at z
  simpa using List.all_eq_true.mp z.2.2.2.2.2 p h
/-- an own error with a value -/
theorem Ctx.err1 (C : Ctx t P w K mg base) {x : Str} {d : DefD} {fd : FuncData} (hx : x ∈ t.tx.errs) (hn : x ∈ errNames) (hg : Fa.glo x ∈ t.fa) (F : ErrC P w K mg base lv x (ga K x) (some (excAttr x))) : ErrC P w K mg base lv x (ga K x) (some (excAttr x)) := F
theorem Ctx.of {h : Heap} (X : K.In h) (G : h.Ns mainGlobals mg) (c : SaysZ t.fn t.ex K) : Ctx t P w K mg base := by
  have he := c.ex
  simp only [Tp.ex, Bool.and_eq_true] at he
  have hf := List.all_eq_true.mp he.1
  exact ⟨c, baseB_ok X G he.2.1, hf, fun x hx => glo_ok X G (hf _ hx)⟩
theorem Tp.nol (t : Tp) (K : PySem.W.Frag) (h : t.ex K = true) : ∀ a o, K.lookup a = some o → o.cls ≠ .type "list" := by
  simp only [Tp.ex, Bool.and_eq_true] at h
  exact nol_ok h.2.1
end
/-- values by name behind those by place, in the order of the parameters -/
theorem rvs_kw {γ : Gh} {n : Nat} {vs zs : List V} {ds : List D} (h : vs.length = n) (r : RVs γ (vs ++ zs) ds) : RVs γ (vs ++ sw zs) (ds.take n ++ sw (ds.drop n)) := by
  induction vs generalizing n ds with
  | nil =>
    cases h
    exact rvs_sw r
  | cons v vs ih =>
    cases n with
    | zero => cases h
    | succ n =>
      cases r with
      | cons a r => exact .cons a (ih (by simpa using h) r)
end DI
end

section
set_option Elab.async false
set_option linter.all false
set_option maxRecDepth 100000
set_option maxHeartbeats 0
namespace K56
open PySem PySem.Spec L2 DI
open PyProof.Rows hiding St
def top (i : Nat) : Stmt := PySem.Challenge.pw_pledgepools_k56_rules_over_rows_of_uses.main.body.getD i (.Pass ⟨0, 0, 0, 0⟩)
def tx : Tx := ⟨[0, 1], [(0, "bottom"), (0, "top"), (1, "rows")], ["ByZero", "BadNumber", "BadText", "BadRule", "BadUse"]⟩
abbrev s_ByZero___init__ : Stmt := (inClass (top 3) 0)
def d_ByZero___init__ : He.DefD := ⟨("ByZero", some "__init__"), "__init__", "ByZero.__init__", defArgs s_ByZero___init__, defBody s_ByZero___init__, defScope s_ByZero___init__, [], []⟩
abbrev s_BadNumber___init__ : Stmt := (inClass (top 4) 0)
def d_BadNumber___init__ : He.DefD := ⟨("BadNumber", some "__init__"), "__init__", "BadNumber.__init__", defArgs s_BadNumber___init__, defBody s_BadNumber___init__, defScope s_BadNumber___init__, [], []⟩
abbrev s_BadText___init__ : Stmt := (inClass (top 5) 0)
def d_BadText___init__ : He.DefD := ⟨("BadText", some "__init__"), "__init__", "BadText.__init__", defArgs s_BadText___init__, defBody s_BadText___init__, defScope s_BadText___init__, [], []⟩
abbrev s_BadRule___init__ : Stmt := (inClass (top 6) 0)
def d_BadRule___init__ : He.DefD := ⟨("BadRule", some "__init__"), "__init__", "BadRule.__init__", defArgs s_BadRule___init__, defBody s_BadRule___init__, defScope s_BadRule___init__, [], []⟩
abbrev s_BadUse___init__ : Stmt := (inClass (top 7) 0)
def d_BadUse___init__ : He.DefD := ⟨("BadUse", some "__init__"), "__init__", "BadUse.__init__", defArgs s_BadUse___init__, defBody s_BadUse___init__, defScope s_BadUse___init__, [], []⟩
abbrev s_is_integer : Stmt := (top 9)
def d_is_integer : He.DefD := ⟨("is_integer", none), "is_integer", "is_integer", defArgs s_is_integer, defBody s_is_integer, defScope s_is_integer, [], []⟩
abbrev s_divisor_of : Stmt := (top 10)
def d_divisor_of : He.DefD := ⟨("divisor_of", none), "divisor_of", "divisor_of", defArgs s_divisor_of, defBody s_divisor_of, defScope s_divisor_of, [], []⟩
abbrev s_parts : Stmt := (top 11)
def d_parts : He.DefD := ⟨("parts", none), "parts", "parts", defArgs s_parts, defBody s_parts, defScope s_parts, [], []⟩
abbrev s_checked : Stmt := (top 12)
def d_checked : He.DefD := ⟨("checked", none), "checked", "checked", defArgs s_checked, defBody s_checked, defScope s_checked, [], []⟩
abbrev s_Ratio___init__ : Stmt := (inClass (top 13) 0)
def d_Ratio___init__ : He.DefD := ⟨("Ratio", some "__init__"), "__init__", "Ratio.__init__", defArgs s_Ratio___init__, defBody s_Ratio___init__, defScope s_Ratio___init__, [.int 1], []⟩
abbrev s_Ratio___add__ : Stmt := (inClass (top 13) 2)
def d_Ratio___add__ : He.DefD := ⟨("Ratio", some "__add__"), "__add__", "Ratio.__add__", defArgs s_Ratio___add__, defBody s_Ratio___add__, defScope s_Ratio___add__, [], []⟩
abbrev s_Ratio___sub__ : Stmt := (inClass (top 13) 3)
def d_Ratio___sub__ : He.DefD := ⟨("Ratio", some "__sub__"), "__sub__", "Ratio.__sub__", defArgs s_Ratio___sub__, defBody s_Ratio___sub__, defScope s_Ratio___sub__, [], []⟩
abbrev s_Ratio___mul__ : Stmt := (inClass (top 13) 4)
def d_Ratio___mul__ : He.DefD := ⟨("Ratio", some "__mul__"), "__mul__", "Ratio.__mul__", defArgs s_Ratio___mul__, defBody s_Ratio___mul__, defScope s_Ratio___mul__, [], []⟩
abbrev s_Ratio___neg__ : Stmt := (inClass (top 13) 5)
def d_Ratio___neg__ : He.DefD := ⟨("Ratio", some "__neg__"), "__neg__", "Ratio.__neg__", defArgs s_Ratio___neg__, defBody s_Ratio___neg__, defScope s_Ratio___neg__, [], []⟩
abbrev s_Ratio___eq__ : Stmt := (inClass (top 13) 6)
def d_Ratio___eq__ : He.DefD := ⟨("Ratio", some "__eq__"), "__eq__", "Ratio.__eq__", defArgs s_Ratio___eq__, defBody s_Ratio___eq__, defScope s_Ratio___eq__, [], []⟩
abbrev s_Ratio___lt__ : Stmt := (inClass (top 13) 7)
def d_Ratio___lt__ : He.DefD := ⟨("Ratio", some "__lt__"), "__lt__", "Ratio.__lt__", defArgs s_Ratio___lt__, defBody s_Ratio___lt__, defScope s_Ratio___lt__, [], []⟩
abbrev s_Ratio___le__ : Stmt := (inClass (top 13) 8)
def d_Ratio___le__ : He.DefD := ⟨("Ratio", some "__le__"), "__le__", "Ratio.__le__", defArgs s_Ratio___le__, defBody s_Ratio___le__, defScope s_Ratio___le__, [], []⟩
abbrev s_as_ratio : Stmt := (top 15)
def d_as_ratio : He.DefD := ⟨("as_ratio", none), "as_ratio", "as_ratio", defArgs s_as_ratio, defBody s_as_ratio, defScope s_as_ratio, [], []⟩
abbrev s_is_amount : Stmt := (top 16)
def d_is_amount : He.DefD := ⟨("is_amount", none), "is_amount", "is_amount", defArgs s_is_amount, defBody s_is_amount, defScope s_is_amount, [], []⟩
abbrev s_is_use : Stmt := (top 18)
def d_is_use : He.DefD := ⟨("is_use", none), "is_use", "is_use", defArgs s_is_use, defBody s_is_use, defScope s_is_use, [], []⟩
abbrev s_check_use : Stmt := (top 19)
def d_check_use : He.DefD := ⟨("check_use", none), "check_use", "check_use", defArgs s_check_use, defBody s_check_use, defScope s_check_use, [], []⟩
abbrev s_is_step : Stmt := (top 20)
def d_is_step : He.DefD := ⟨("is_step", none), "is_step", "is_step", defArgs s_is_step, defBody s_is_step, defScope s_is_step, [], []⟩
abbrev s_are_steps : Stmt := (top 21)
def d_are_steps : He.DefD := ⟨("are_steps", none), "are_steps", "are_steps", defArgs s_are_steps, defBody s_are_steps, defScope s_are_steps, [], []⟩
abbrev s_fewest_steps : Stmt := (top 22)
def d_fewest_steps : He.DefD := ⟨("fewest_steps", none), "fewest_steps", "fewest_steps", defArgs s_fewest_steps, defBody s_fewest_steps, defScope s_fewest_steps, [], []⟩
abbrev s_Rule___init__ : Stmt := (inClass (top 23) 0)
def d_Rule___init__ : He.DefD := ⟨("Rule", some "__init__"), "__init__", "Rule.__init__", defArgs s_Rule___init__, defBody s_Rule___init__, defScope s_Rule___init__, [], []⟩
abbrev s_Rule_steps : Stmt := (inClass (top 23) 2)
def d_Rule_steps : He.DefD := ⟨("Rule", some "steps"), "steps", "Rule.steps", defArgs s_Rule_steps, defBody s_Rule_steps, defScope s_Rule_steps, [], []⟩
abbrev s_Rule_rate : Stmt := (inClass (top 23) 3)
def d_Rule_rate : He.DefD := ⟨("Rule", some "rate"), "rate", "Rule.rate", defArgs s_Rule_rate, defBody s_Rule_rate, defScope s_Rule_rate, [], []⟩
abbrev s_less_at : Stmt := (top 24)
def d_less_at : He.DefD := ⟨("less_at", none), "less_at", "less_at", defArgs s_less_at, defBody s_less_at, defScope s_less_at, [], []⟩
abbrev s_never_less : Stmt := (top 25)
def d_never_less : He.DefD := ⟨("never_less", none), "never_less", "never_less", defArgs s_never_less, defBody s_never_less, defScope s_never_less, [], []⟩
abbrev s_dearer : Stmt := (top 27)
def d_dearer : He.DefD := ⟨("dearer", none), "dearer", "dearer", defArgs s_dearer, defBody s_dearer, defScope s_dearer, [], []⟩
abbrev s_never_dearer : Stmt := (top 28)
def d_never_dearer : He.DefD := ⟨("never_dearer", none), "never_dearer", "never_dearer", defArgs s_never_dearer, defBody s_never_dearer, defScope s_never_dearer, [], []⟩
abbrev s_dearer_at : Stmt := (top 29)
def d_dearer_at : He.DefD := ⟨("dearer_at", none), "dearer_at", "dearer_at", defArgs s_dearer_at, defBody s_dearer_at, defScope s_dearer_at, [], []⟩
abbrev s__law_cell : Stmt := (top 31)
def d__law_cell : He.DefD := ⟨("_law_cell", none), "_law_cell", "_law_cell", defArgs s__law_cell, defBody s__law_cell, defScope s__law_cell, [], []⟩
abbrev s__law_box : Stmt := (top 32)
def d__law_box : He.DefD := ⟨("_law_box", none), "_law_box", "_law_box", defArgs s__law_box, defBody s__law_box, defScope s__law_box, [], []⟩
abbrev s__law_take : Stmt := (top 33)
def d__law_take : He.DefD := ⟨("_law_take", none), "_law_take", "_law_take", defArgs s__law_take, defBody s__law_take, defScope s__law_take, [], []⟩
abbrev s__law_frac : Stmt := (top 34)
def d__law_frac : He.DefD := ⟨("_law_frac", none), "_law_frac", "_law_frac", defArgs s__law_frac, defBody s__law_frac, defScope s__law_frac, [], []⟩
abbrev s__law_plus : Stmt := (top 35)
def d__law_plus : He.DefD := ⟨("_law_plus", none), "_law_plus", "_law_plus", defArgs s__law_plus, defBody s__law_plus, defScope s__law_plus, [], []⟩
abbrev s__law_times : Stmt := (top 36)
def d__law_times : He.DefD := ⟨("_law_times", none), "_law_times", "_law_times", defArgs s__law_times, defBody s__law_times, defScope s__law_times, [], []⟩
abbrev s__law_less : Stmt := (top 37)
def d__law_less : He.DefD := ⟨("_law_less", none), "_law_less", "_law_less", defArgs s__law_less, defBody s__law_less, defScope s__law_less, [], []⟩
abbrev s__law_told : Stmt := (top 38)
def d__law_told : He.DefD := ⟨("_law_told", none), "_law_told", "_law_told", defArgs s__law_told, defBody s__law_told, defScope s__law_told, [], []⟩
abbrev s__law_row : Stmt := (top 39)
def d__law_row : He.DefD := ⟨("_law_row", none), "_law_row", "_law_row", defArgs s__law_row, defBody s__law_row, defScope s__law_row, [], []⟩
abbrev s__law_ratio : Stmt := (top 40)
def d__law_ratio : He.DefD := ⟨("_law_ratio", none), "_law_ratio", "_law_ratio", defArgs s__law_ratio, defBody s__law_ratio, defScope s__law_ratio, [], []⟩
abbrev s__law_steps : Stmt := (top 41)
def d__law_steps : He.DefD := ⟨("_law_steps", none), "_law_steps", "_law_steps", defArgs s__law_steps, defBody s__law_steps, defScope s__law_steps, [], []⟩
abbrev s__law_rate : Stmt := (top 42)
def d__law_rate : He.DefD := ⟨("_law_rate", none), "_law_rate", "_law_rate", defArgs s__law_rate, defBody s__law_rate, defScope s__law_rate, [], []⟩
abbrev s__law_rule : Stmt := (top 43)
def d__law_rule : He.DefD := ⟨("_law_rule", none), "_law_rule", "_law_rule", defArgs s__law_rule, defBody s__law_rule, defScope s__law_rule, [], []⟩
abbrev s__law_use : Stmt := (top 44)
def d__law_use : He.DefD := ⟨("_law_use", none), "_law_use", "_law_use", defArgs s__law_use, defBody s__law_use, defScope s__law_use, [], []⟩
abbrev s__law_grown : Stmt := (top 45)
def d__law_grown : He.DefD := ⟨("_law_grown", none), "_law_grown", "_law_grown", defArgs s__law_grown, defBody s__law_grown, defScope s__law_grown, [], []⟩
abbrev s__law_refused : Stmt := (top 46)
def d__law_refused : He.DefD := ⟨("_law_refused", none), "_law_refused", "_law_refused", defArgs s__law_refused, defBody s__law_refused, defScope s__law_refused, [], []⟩
abbrev s_law : Stmt := (top 47)
def d_law : He.DefD := ⟨("law", none), "law", "law", defArgs s_law, defBody s_law, defScope s_law, [], []⟩
def fn : List He.DefD := d_ByZero___init__ :: d_BadNumber___init__ :: d_BadText___init__ :: d_BadRule___init__ :: d_BadUse___init__ :: d_is_integer :: d_divisor_of :: d_parts :: d_checked :: d_Ratio___init__ :: d_Ratio___add__ :: d_Ratio___sub__ :: d_Ratio___mul__ :: d_Ratio___neg__ :: d_Ratio___eq__ :: d_Ratio___lt__ :: d_Ratio___le__ :: d_as_ratio :: d_is_amount :: d_is_use :: d_check_use :: d_is_step :: d_are_steps :: d_fewest_steps :: d_Rule___init__ :: d_Rule_steps :: d_Rule_rate :: d_less_at :: d_never_less :: d_dearer :: d_never_dearer :: d_dearer_at :: d__law_cell :: d__law_box :: d__law_take :: d__law_frac :: d__law_plus :: d__law_times :: d__law_less :: d__law_told :: d__law_row :: d__law_ratio :: d__law_steps :: d__law_rate :: d__law_rule :: d__law_use :: d__law_grown :: d__law_refused :: d_law :: []
def fa : List He.Fa := .glo "_wall" :: .glo "LoanError" :: .glo "ByZero" :: .glo "BadNumber" :: .glo "BadText" :: .glo "BadRule" :: .glo "BadUse" :: .glo "is_integer" :: .glo "divisor_of" :: .glo "parts" :: .glo "checked" :: .glo "Ratio" :: .glo "integer_of" :: .glo "as_ratio" :: .glo "is_amount" :: .glo "is_use" :: .glo "check_use" :: .glo "is_step" :: .glo "are_steps" :: .glo "fewest_steps" :: .glo "Rule" :: .glo "less_at" :: .glo "never_less" :: .glo "dearer" :: .glo "never_dearer" :: .glo "dearer_at" :: .glo "_law_cell" :: .glo "_law_box" :: .glo "_law_take" :: .glo "_law_frac" :: .glo "_law_plus" :: .glo "_law_times" :: .glo "_law_less" :: .glo "_law_told" :: .glo "_law_row" :: .glo "_law_ratio" :: .glo "_law_steps" :: .glo "_law_rate" :: .glo "_law_rule" :: .glo "_law_use" :: .glo "_law_grown" :: .glo "_law_refused" :: .glo "law" :: .mkr "Ratio" :: .meth "Ratio" "__init__" :: .meth "Ratio" "__add__" :: .meth "Ratio" "__sub__" :: .meth "Ratio" "__mul__" :: .meth "Ratio" "__neg__" :: .meth "Ratio" "__eq__" :: .meth "Ratio" "__lt__" :: .meth "Ratio" "__le__" :: .meth "Ratio" "over" :: .meth "Ratio" "text" :: .mkr "Rule" :: .meth "Rule" "__init__" :: .meth "Rule" "steps" :: .meth "Rule" "rate" :: .meth "Rule" "__eq__" :: .meth "Rule" "text" :: []
def tp : Tp := ⟨tx, fn, fa, ["Ratio", "Rule"], [("Ratio", "__radd__"), ("Ratio", "__rsub__"), ("Ratio", "__rmul__")]⟩
abbrev R : PySem.W.OpenRow := PySem.W.OpenLaw.row PySem.Challenge.rw_pledgepools_k56_rules_over_rows_of_uses
abbrev hk : PySem.W.Hook := hookZ 6 tp.fn tp.ex
def loose : List Str := "_wall" :: "LoanError" :: "ByZero" :: "BadNumber" :: "BadText" :: "BadRule" :: "BadUse" :: "is_integer" :: "divisor_of" :: "parts" :: "checked" :: "Ratio" :: "integer_of" :: "as_ratio" :: "is_amount" :: "is_use" :: "check_use" :: "is_step" :: "are_steps" :: "fewest_steps" :: "Rule" :: "less_at" :: "never_less" :: "dearer" :: "never_dearer" :: "dearer_at" :: "_law_cell" :: "_law_box" :: "_law_take" :: "_law_frac" :: "_law_plus" :: "_law_times" :: "_law_less" :: "_law_told" :: "_law_row" :: "_law_ratio" :: "_law_steps" :: "_law_rate" :: "_law_rule" :: "_law_use" :: "_law_grown" :: "_law_refused" :: []
def ob (s : PySem.W.SharedT) : He.AlD := obsZ 6 tp.fn tp.ex (HandSHeadRun.getT s)
theorem ob_eq (s : PySem.W.SharedT) : ob s = hk.obs s.abs := obsZ_eq (HandSHeadRun.getT_eq s)
theorem run (w : World) : HandSHeadRun.RunEq R (PySem.W.view R.prog [47]) hk ob 4000 loose w := by
  intro os
  kernel_rfl
end K56
end

section
set_option Elab.async false
set_option linter.all false
set_option maxRecDepth 100000
set_option maxHeartbeats 0
namespace K56
open PySem L2 DI
open PyProof.Rows hiding St

def N_is_integer : List Str := ["value"]
def ir_is_integer : List S := [(.ret (.and (.inst (.var 0) [.int]) (.not (.inst (.var 0) [.bool]))))]
def N_parts : List Str := ["given"]
def ir_parts : List S := [(.ite (.call 0 [(.var 0)] []) [(.ret (.tup [(.var 0), (.con (.int 1))]))] []), (.ret (.ite (.inst (.var 0) [.cls 0]) (.tup [(.attr (.var 0) "top"), (.attr (.var 0) "bottom")]) (.con .non)))]
def N_checked : List Str := ["given", "found"]
def ir_checked : List S := [(.asg (.var 1) (.call 0 [(.var 0)] [])), (.ite (.isN false (.var 1)) [(.raise "BadNumber" [(.var 0)])] []), (.ret (.var 1))]
def N_divisor_of : List Str := ["one", "other"]
def ir_divisor_of : List S := [(.whl (.cmp .ne (.var 1) (.con (.int 0))) [(.asg (.tup [(.var 0), (.var 1)]) (.tup [(.var 1), (.bin .mod (.var 0) (.var 1))]))]), (.ret (.bi .abs [(.var 0)]))]
def N_Ratio___init__ : List Str := ["self", "top", "bottom", "divisor"]
def ir_Ratio___init__ : List S := [(.ite (.cmp .eq (.var 2) (.con (.int 0))) [(.raise "ByZero" [])] []), (.asg (.var 3) (.ite (.cmp .gt (.var 2) (.con (.int 0))) (.call 0 [(.var 1), (.var 2)] []) (.neg (.call 0 [(.var 1), (.var 2)] [])))), (.atV 0 "top" (.bin .fdiv (.var 1) (.var 3))), (.atV 0 "bottom" (.bin .fdiv (.var 2) (.var 3)))]
def N_Ratio___add__ : List Str := ["self", "other", "top", "bottom"]
def ir_Ratio___add__ : List S := [(.asg (.tup [(.var 2), (.var 3)]) (.call 0 [(.var 1)] [])), (.ret (.call 1 [(.bin .add (.bin .mul (.attr (.var 0) "top") (.var 3)) (.bin .mul (.var 2) (.attr (.var 0) "bottom"))), (.bin .mul (.attr (.var 0) "bottom") (.var 3))] []))]
def N_Ratio___sub__ : List Str := ["self", "other", "top", "bottom"]
def ir_Ratio___sub__ : List S := [(.asg (.tup [(.var 2), (.var 3)]) (.call 0 [(.var 1)] [])), (.ret (.call 1 [(.bin .sub (.bin .mul (.attr (.var 0) "top") (.var 3)) (.bin .mul (.var 2) (.attr (.var 0) "bottom"))), (.bin .mul (.attr (.var 0) "bottom") (.var 3))] []))]
def N_Ratio___mul__ : List Str := ["self", "other", "top", "bottom"]
def ir_Ratio___mul__ : List S := [(.asg (.tup [(.var 2), (.var 3)]) (.call 0 [(.var 1)] [])), (.ret (.call 1 [(.bin .mul (.attr (.var 0) "top") (.var 2)), (.bin .mul (.attr (.var 0) "bottom") (.var 3))] []))]
def N_Ratio___neg__ : List Str := ["self"]
def ir_Ratio___neg__ : List S := [(.ret (.call 0 [(.neg (.attr (.var 0) "top")), (.attr (.var 0) "bottom")] []))]
def N_Ratio___eq__ : List Str := ["self", "other"]
def ir_Ratio___eq__ : List S := [(.ret (.cmp .eq (.call 0 [(.var 1)] []) (.tup [(.attr (.var 0) "top"), (.attr (.var 0) "bottom")])))]
def N_Ratio___lt__ : List Str := ["self", "other", "top", "bottom"]
def ir_Ratio___lt__ : List S := [(.asg (.tup [(.var 2), (.var 3)]) (.call 0 [(.var 1)] [])), (.ret (.cmp .lt (.bin .mul (.attr (.var 0) "top") (.var 3)) (.bin .mul (.var 2) (.attr (.var 0) "bottom"))))]
def N_Ratio___le__ : List Str := ["self", "other", "top", "bottom"]
def ir_Ratio___le__ : List S := [(.asg (.tup [(.var 2), (.var 3)]) (.call 0 [(.var 1)] [])), (.ret (.cmp .le (.bin .mul (.attr (.var 0) "top") (.var 3)) (.bin .mul (.var 2) (.attr (.var 0) "bottom"))))]
def N__law_cell : List Str := ["_law_script", "_law_k"]
def ir__law_cell : List S := [(.ret (.ite (.cmp .lt (.var 1) (.bi .len [(.var 0)])) (.idx (.var 0) (.var 1)) (.con (.int 0))))]
def N__law_box : List Str := ["_law_script", "_law_k"]
def ir__law_box : List S := [(.ret (.lstM [(.bi .abs [(.bi .int [(.call 0 [(.var 0), (.var 1)] [])])]), (.con (.int 0)), (.bin .add (.bin .mul (.con (.int 40503)) (.var 1)) (.con (.int 911)))]))]
def N__law_frac : List Str := ["_law_up", "_law_down", "_law_one", "_law_other"]
def ir__law_frac : List S := [(.asg (.tup [(.var 2), (.var 3)]) (.tup [(.bi .abs [(.var 0)]), (.bi .abs [(.var 1)])])), (.whl (.cmp .gt (.var 3) (.con (.int 0))) [(.asg (.tup [(.var 2), (.var 3)]) (.tup [(.var 3), (.bin .mod (.var 2) (.var 3))]))]), (.ite (.cmp .lt (.var 1) (.con (.int 0))) [(.asg (.var 2) (.bin .sub (.con (.int 0)) (.var 2)))] []), (.ret (.tup [(.bin .fdiv (.var 0) (.var 2)), (.bin .fdiv (.var 1) (.var 2))]))]
def N__law_take : List Str := ["_law_box_here", "_law_many", "_law_mixed", "_law_digit"]
def ir__law_take : List S := [(.ite (.cmp .ge (.idx (.var 0) (.con (.int 0))) (.bin .pow (.con (.int 10)) (.con (.int 18)))) [(.asg (.var 3) (.bin .mod (.bi .int [(.idx (.var 0) (.con (.int 0)))]) (.var 1))), (.setR (.var 0) (.con (.int 0)) (.bin .fdiv (.idx (.var 0) (.con (.int 0))) (.var 1))), (.ret (.var 3))] []), (.setR (.var 0) (.con (.int 1)) (.bin .add (.idx (.var 0) (.con (.int 1))) (.con (.int 1)))), (.asg (.var 2) (.bin .mod (.bin .pow (.bi .int [(.bin .add (.bin .add (.bin .mul (.bin .add (.idx (.var 0) (.con (.int 0))) (.con (.int 7))) (.con (.int 69069))) (.bin .mul (.idx (.var 0) (.con (.int 1))) (.con (.int 40692)))) (.idx (.var 0) (.con (.int 2))))]) (.con (.int 3))) (.con (.int 2147483647)))), (.asg (.var 2) (.bin .mod (.bin .pow (.bi .int [(.bin .add (.var 2) (.bin .mul (.idx (.var 0) (.con (.int 1))) (.con (.int 17389))))]) (.con (.int 3))) (.con (.int 2147483399)))), (.ret (.bin .mod (.bi .int [(.bin .fdiv (.var 2) (.con (.int 64)))]) (.var 1)))]
def N__law_plus : List Str := ["_law_x", "_law_y"]
def ir__law_plus : List S := [(.ret (.call 0 [(.bin .add (.bin .mul (.idx (.var 0) (.con (.int 0))) (.idx (.var 1) (.con (.int 1)))) (.bin .mul (.idx (.var 1) (.con (.int 0))) (.idx (.var 0) (.con (.int 1))))), (.bin .mul (.idx (.var 0) (.con (.int 1))) (.idx (.var 1) (.con (.int 1))))] []))]
def N__law_less : List Str := ["_law_x", "_law_y"]
def ir__law_less : List S := [(.ret (.cmp .lt (.bin .mul (.idx (.var 0) (.con (.int 0))) (.idx (.var 1) (.con (.int 1)))) (.bin .mul (.idx (.var 1) (.con (.int 0))) (.idx (.var 0) (.con (.int 1))))))]
def N__law_steps : List Str := ["_law_box_here", "_law_many", "_law_found", "_law_k", "_law_last", "_law_use_here", "_law_rate_here"]
def ir__law_steps : List S := [(.newL 2 [(.tup [(.tup [(.con (.int 0)), (.con (.int 1))]), (.call 0 [(.call 1 [(.var 0), (.con (.int 6))] []), (.idx (.lst [(.con (.int 1)), (.con (.int 10)), (.con (.int 100)), (.con (.int 1000003))]) (.call 1 [(.var 0), (.con (.int 4))] []))] [])])]), (.for_ (.var 3) (.rng (.call 1 [(.var 0), (.var 1)] [])) [(.asg (.var 4) (.idx (.idxO 2 (.neg (.con (.int 1)))) (.con (.int 0)))), (.asg (.var 5) (.call 2 [(.var 4), (.call 0 [(.bin .add (.con (.int 1)) (.call 1 [(.var 0), (.con (.int 4))] [])), (.con (.int 10))] [])] [])), (.ite (.call 3 [(.tup [(.con (.int 1)), (.con (.int 1))]), (.var 5)] []) [.brk] []), (.asg (.var 6) (.call 0 [(.call 1 [(.var 0), (.con (.int 6))] []), (.idx (.lst [(.con (.int 1)), (.con (.int 10)), (.con (.int 100)), (.con (.int 1000003))]) (.call 1 [(.var 0), (.con (.int 4))] []))] [])), (.appV 2 (.tup [(.var 5), (.idx (.lst [(.var 6), (.idx (.idxO 2 (.neg (.con (.int 1)))) (.con (.int 1)))]) (.bi .int [(.cmp .eq (.call 1 [(.var 0), (.con (.int 4))] []) (.con (.int 0)))]))]))]), (.retO 2)]
def N_is_amount : List Str := ["value", "found"]
def ir_is_amount : List S := [(.asg (.var 1) (.call 0 [(.var 0)] [])), (.ret (.and (.isN true (.var 1)) (.cmp .ge (.idx (.var 1) (.con (.int 0))) (.con (.int 0)))))]
def N_as_ratio : List Str := ["given", "top", "bottom"]
def ir_as_ratio : List S := [(.asg (.tup [(.var 1), (.var 2)]) (.call 0 [(.var 0)] [])), (.ret (.call 1 [(.var 1), (.var 2)] []))]
def N_is_use : List Str := ["value"]
def ir_is_use : List S := [(.ret (.and (.call 1 [(.var 0)] []) (.cmp .le (.call 0 [(.var 0)] []) (.con (.int 1)))))]
def N_is_step : List Str := ["value"]
def ir_is_step : List S := [(.ret (.and (.inst (.var 0) [.tuple]) (.and (.cmp .eq (.bi .len [(.var 0)]) (.con (.int 2))) (.and (.call 1 [(.idx (.var 0) (.con (.int 0)))] []) (.call 0 [(.idx (.var 0) (.con (.int 1)))] [])))))]
def N_are_steps : List Str := ["value", "rising", "one", "other", "step"]
def ir_are_steps : List S := [(.ite (.or (.not (.inst (.var 0) [.list, .tuple])) (.or (.cmp .eq (.bi .len [(.var 0)]) (.con (.int 0))) (.not (.bi .all [(.lcomp (.call 0 [(.var 4)] []) (.var 4) (.seq (.var 0)) [])])))) [(.ret (.con (.bl false)))] []), (.asg (.var 1) (.lcomp (.cmp .lt (.call 1 [(.idx (.var 2) (.con (.int 0)))] []) (.idx (.var 3) (.con (.int 0)))) (.tup [(.var 2), (.var 3)]) (.zip (.var 0) (.slc (.var 0) (some (.con (.int 1))) none)) [])), (.ret (.and (.cmp .eq (.call 1 [(.idx (.idx (.var 0) (.con (.int 0))) (.con (.int 0)))] []) (.con (.int 0))) (.bi .all [(.var 1)])))]
def N_fewest_steps : List Str := ["steps", "found", "use", "rate"]
def ir_fewest_steps : List S := [(.asg (.var 1) (.lst [])), (.for_ (.tup [(.var 2), (.var 3)]) (.seq (.var 0)) [(.ite (.or (.cmp .eq (.bi .len [(.var 1)]) (.con (.int 0))) (.cmp .ne (.idx (.idx (.var 1) (.neg (.con (.int 1)))) (.con (.int 1))) (.var 3))) [(.asg (.var 1) (.lst [(.star (.var 1)), (.tup [(.call 0 [(.var 2)] []), (.call 0 [(.var 3)] [])])]))] [])]), (.ret (.var 1))]
def N_Rule___init__ : List Str := ["self", "steps"]
def ir_Rule___init__ : List S := [(.ite (.not (.call 0 [(.var 1)] [])) [(.raise "BadRule" [])] []), (.atV 0 "rows" (.call 1 [(.var 1)] []))]
def N__law_ratio : List Str := ["_law_x"]
def ir__law_ratio : List S := [(.ret (.call 0 [(.idx (.var 0) (.con (.int 0))), (.idx (.var 0) (.con (.int 1)))] []))]
def N__law_rule : List Str := ["_law_steps_here", "_law_use_here", "_law_rate_here"]
def ir__law_rule : List S := [(.ret (.call 0 [(.lcomp (.tup [(.call 1 [(.var 1)] []), (.call 1 [(.var 2)] [])]) (.tup [(.var 1), (.var 2)]) (.seq (.var 0)) [])] []))]
def N__law_use : List Str := ["_law_box_here", "_law_steps_here"]
def ir__law_use : List S := [(.ite (.cmp .eq (.call 0 [(.var 0), (.con (.int 2))] []) (.con (.int 0))) [(.ret (.idx (.idx (.var 1) (.call 0 [(.var 0), (.bi .len [(.var 1)])] [])) (.con (.int 0))))] []), (.ret (.call 1 [(.call 0 [(.var 0), (.con (.int 41))] []), (.con (.int 40))] []))]
def N_check_use : List Str := ["use"]
def ir_check_use : List S := [(.ite (.not (.call 0 [(.var 0)] [])) [(.raise "BadUse" [(.var 0)])] [])]
def N_Rule_rate : List Str := ["self", "use", "step"]
def ir_Rule_rate : List S := [(.expr (.call 0 [(.var 1)] [])), (.ret (.idx (.lcomp (.idx (.var 2) (.con (.int 1))) (.var 2) (.seq (.attr (.var 0) "rows")) [(.cmp .le (.idx (.var 2) (.con (.int 0))) (.var 1))]) (.neg (.con (.int 1)))))]
def N_dearer : List Str := ["one", "other", "uses", "use", "first", "second"]
def ir_dearer : List S := [(.for_ (.var 3) (.seq (.var 2)) [(.expr (.call 0 [(.var 3)] []))]), (.asg (.tup [(.var 4), (.var 5)]) (.tup [(.call 1 [(.con (.int 1))] []), (.call 1 [(.con (.int 1))] [])])), (.for_ (.var 3) (.seq (.var 2)) [(.asg (.var 4) (.bin .mul (.var 4) (.bin .add (.meth 0 "rate" (.var 0) [(.var 3)] []) (.con (.int 1))))), (.asg (.var 5) (.bin .mul (.var 5) (.bin .add (.meth 0 "rate" (.var 1) [(.var 3)] []) (.con (.int 1)))))]), (.ret (.tup [(.var 4), (.var 5)]))]
def N__law_row : List Str := ["_law_numbers", "_law_x"]
def ir__law_row : List S := [(.ret (.lcomp (.tup [(.attr (.var 1) "top"), (.attr (.var 1) "bottom")]) (.var 1) (.seq (.var 0)) []))]
def N__law_times : List Str := ["_law_x", "_law_y"]
def ir__law_times : List S := [(.ret (.call 0 [(.bin .mul (.idx (.var 0) (.con (.int 0))) (.idx (.var 1) (.con (.int 0)))), (.bin .mul (.idx (.var 0) (.con (.int 1))) (.idx (.var 1) (.con (.int 1))))] []))]
def N__law_rate : List Str := ["_law_steps_here", "_law_use_here", "_law_first", "_law_rate_here"]
def ir__law_rate : List S := [(.ret (.idx (.lcomp (.var 3) (.tup [(.var 2), (.var 3)]) (.seq (.var 0)) [(.not (.call 0 [(.var 1), (.var 2)] []))]) (.neg (.con (.int 1)))))]
def N__law_grown : List Str := ["_law_steps_here", "_law_uses", "_law_found", "_law_use_here"]
def ir__law_grown : List S := [(.asg (.var 2) (.tup [(.con (.int 1)), (.con (.int 1))])), (.for_ (.var 3) (.seq (.var 1)) [(.asg (.var 2) (.call 0 [(.var 2), (.call 1 [(.tup [(.con (.int 1)), (.con (.int 1))]), (.call 2 [(.var 0), (.var 3)] [])] [])] []))]), (.ret (.var 2))]
def N_Rule_steps : List Str := ["self"]
def ir_Rule_steps : List S := [(.ret (.bi .list [(.attr (.var 0) "rows")]))]
def N_less_at : List Str := ["one", "other", "use", "step"]
def ir_less_at : List S := [(.for_ (.var 2) (.seq (.lcomp (.idx (.var 3) (.con (.int 0))) (.var 3) (.seq (.lst [(.star (.meth 0 "steps" (.var 0) [] [])), (.star (.meth 0 "steps" (.var 1) [] []))])) [])) [(.ite (.cmp .lt (.meth 1 "rate" (.var 0) [(.var 2)] []) (.meth 1 "rate" (.var 1) [(.var 2)] [])) [(.ret (.var 2))] [])]), (.ret (.con .non))]
def N_never_less : List Str := ["one", "other"]
def ir_never_less : List S := [(.ret (.isN false (.call 0 [(.var 0), (.var 1)] [])))]
def N_never_dearer : List Str := ["one", "other"]
def ir_never_dearer : List S := [(.ret (.call 0 [(.var 1), (.var 0)] []))]
def N_dearer_at : List Str := ["one", "other", "use"]
def ir_dearer_at : List S := [(.asg (.var 2) (.call 0 [(.var 1), (.var 0)] [])), (.ret (.ite (.isN false (.var 2)) (.con .non) (.lst [(.var 2)])))]
def N__law_told : List Str := ["_law_amount"]
def ir__law_told : List S := [(.ret (.tup [(.attr (.var 0) "top"), (.attr (.var 0) "bottom")]))]
def N__law_refused : List Str := ["_law_one", "_law_other", "_law_uses", "e"]
def ir__law_refused : List S := [(.try_ [(.expr (.call 0 [(.var 0), (.var 1), (.var 2)] []))] [("BadUse", some 3, [(.ret (.lst [(.exA 3 "given")]))])]), (.ret (.lst []))]
def N_law : List Str := ["_law_script", "_law_k", "_law_box_here", "_law_first", "_law_second", "_law_one", "_law_other", "_law_uses", "_law_handed", "_law_told_here", "_law_above", "_law_row_here", "_law_odd", "_law_use_here", "_law_turn", "_law_rate_here"]
def ir_law : List S := [(.for_ (.var 1) (.rng (.bi .max [(.con (.int 1)), (.bi .min [(.con (.int 2)), (.bi .len [(.var 0)])])])) [(.asg (.var 2) (.call 0 [(.var 0), (.var 1)] [])), (.asg (.var 3) (.call 1 [(.var 2), (.con (.int 6))] [])), (.asg (.var 4) (.call 1 [(.var 2), (.con (.int 6))] [])), (.ite (.cmp .eq (.call 2 [(.var 2), (.con (.int 2))] []) (.con (.int 0))) [(.asg (.var 4) (.lcomp (.tup [(.var 13), (.call 3 [(.var 15), (.tup [(.call 2 [(.var 2), (.con (.int 2))] []), (.con (.int 100))])] [])]) (.tup [(.var 13), (.var 15)]) (.seq (.var 3)) []))] []), (.asg (.var 5) (.call 4 [(.var 3)] [])), (.asg (.var 6) (.call 4 [(.var 4)] [])), (.asg (.var 7) (.lcomp (.call 5 [(.var 2), (.var 3)] []) (.var 14) (.rng (.call 2 [(.var 2), (.con (.int 11))] [])) [])), (.asg (.var 8) (.lcomp (.ite (.cmp .eq (.idx (.var 13) (.con (.int 1))) (.con (.int 1))) (.idx (.var 13) (.con (.int 0))) (.call 6 [(.var 13)] [])) (.var 13) (.seq (.var 7)) [])), (.asg (.var 9) (.call 7 [(.var 5), (.var 6), (.var 8)] [])), (.ite (.or (.cmp .ne (.call 8 [(.var 9)] []) (.lst [(.call 9 [(.var 3), (.var 7)] []), (.call 9 [(.var 4), (.var 7)] [])])) (.cmp .ne (.bi .len [(.var 8)]) (.bi .len [(.var 7)]))) [(.ret (.con (.bl false)))] []), (.ite (.cmp .ne (.call 8 [(.call 7 [(.var 6), (.var 5), (.slc (.var 8) none (some (.con (.int 2))))] [])] []) (.lst [(.call 9 [(.var 4), (.slc (.var 7) none (some (.con (.int 2))))] []), (.call 9 [(.var 3), (.slc (.var 7) none (some (.con (.int 2))))] [])])) [(.ret (.con (.bl false)))] []), (.ite (.cmp .ne (.call 8 [(.call 7 [(.var 5), (.var 6), (.var 8)] [])] []) (.lst [(.call 9 [(.var 3), (.var 7)] []), (.call 9 [(.var 4), (.var 7)] [])])) [(.ret (.con (.bl false)))] []), (.asg (.var 10) (.lcomp (.var 13) (.tup [(.var 13), (.var 15)]) (.seq (.bin .add (.var 3) (.var 4))) [(.call 10 [(.call 11 [(.var 4), (.var 13)] []), (.call 11 [(.var 3), (.var 13)] [])] [])])), (.ite (.or (.cmp .ne (.call 12 [(.var 5), (.var 6)] []) (.cmp .eq (.var 10) (.lst []))) (.not (.call 12 [(.var 5), (.var 5)] []))) [(.ret (.con (.bl false)))] []), (.asg (.var 11) (.call 13 [(.var 5), (.var 6)] [])), (.ite (.cmp .ne (.isN false (.var 11)) (.cmp .eq (.var 10) (.lst []))) [(.ret (.con (.bl false)))] []), (.ite (.isN true (.var 11)) [(.asg (.var 13) (.call 14 [(.idx (.var 11) (.con (.int 0)))] [])), (.ite (.or (.cmp .ne (.bi .len [(.var 11)]) (.con (.int 1))) (.or (.cmp .lt (.idx (.var 13) (.con (.int 0))) (.con (.int 0))) (.call 10 [(.tup [(.con (.int 1)), (.con (.int 1))]), (.var 13)] []))) [(.ret (.con (.bl false)))] []), (.ite (.not (.call 10 [(.call 11 [(.var 4), (.var 13)] []), (.call 11 [(.var 3), (.var 13)] [])] [])) [(.ret (.con (.bl false)))] [])] []), (.asg (.var 12) (.idx (.lst [(.neg (.con (.int 1))), (.con (.int 2)), (.con .non), (.con (.str "0")), (.con (.bl true))]) (.call 2 [(.var 2), (.con (.int 5))] []))), (.ite (.cmp .ne (.call 15 [(.var 5), (.var 6), (.bin .add (.var 8) (.lst [(.var 12), (.con .non)]))] []) (.lst [(.var 12)])) [(.ret (.con (.bl false)))] [])]), (.ret (.con (.bl true)))]
end K56
end

section
set_option Elab.async false
set_option linter.all false
set_option maxRecDepth 100000
set_option maxHeartbeats 0
namespace K56
open PySem L2 DI
open PyProof.Rows hiding St

def fsh_is_integer : List (Str × Nat × List Str) := []
def msh_is_integer : List (Str × Nat × List Str) := []
def cs_is_integer : Cs := ⟨[], []⟩
theorem chk_is_integer : fnScopeB N_is_integer (N_is_integer.take 1) (defScope s_is_integer) = true ∧ mSs 60 ⟨N_is_integer, defScope s_is_integer, fsh_is_integer, msh_is_integer, tx.cs, true, false⟩ cs_is_integer (defBody s_is_integer) ir_is_integer = true := by decide +kernel
def fsh_parts : List (Str × Nat × List Str) := [("is_integer", 1, [])]
def msh_parts : List (Str × Nat × List Str) := []
def cs_parts : Cs := ⟨[], []⟩
theorem chk_parts : fnScopeB N_parts (N_parts.take 1) (defScope s_parts) = true ∧ mSs 60 ⟨N_parts, defScope s_parts, fsh_parts, msh_parts, tx.cs, true, false⟩ cs_parts (defBody s_parts) ir_parts = true := by decide +kernel
def fsh_checked : List (Str × Nat × List Str) := [("parts", 1, [])]
def msh_checked : List (Str × Nat × List Str) := []
def cs_checked : Cs := ⟨[("BadNumber", true)], []⟩
theorem chk_checked : fnScopeB N_checked (N_checked.take 1) (defScope s_checked) = true ∧ mSs 60 ⟨N_checked, defScope s_checked, fsh_checked, msh_checked, tx.cs, true, false⟩ cs_checked (defBody s_checked) ir_checked = true := by decide +kernel
def fsh_divisor_of : List (Str × Nat × List Str) := []
def msh_divisor_of : List (Str × Nat × List Str) := []
def cs_divisor_of : Cs := ⟨[], []⟩
theorem chk_divisor_of : fnScopeB N_divisor_of (N_divisor_of.take 2) (defScope s_divisor_of) = true ∧ mSs 60 ⟨N_divisor_of, defScope s_divisor_of, fsh_divisor_of, msh_divisor_of, tx.cs, true, false⟩ cs_divisor_of (defBody s_divisor_of) ir_divisor_of = true := by decide +kernel
def fsh_Ratio___init__ : List (Str × Nat × List Str) := [("divisor_of", 2, [])]
def msh_Ratio___init__ : List (Str × Nat × List Str) := []
def cs_Ratio___init__ : Cs := ⟨[("ByZero", false)], []⟩
theorem chk_Ratio___init__ : fnScopeB N_Ratio___init__ (N_Ratio___init__.take 3) (defScope s_Ratio___init__) = true ∧ mSs 60 ⟨N_Ratio___init__, defScope s_Ratio___init__, fsh_Ratio___init__, msh_Ratio___init__, tx.cs, true, false⟩ cs_Ratio___init__ (defBody s_Ratio___init__) ir_Ratio___init__ = true := by decide +kernel
def fsh_Ratio___add__ : List (Str × Nat × List Str) := [("checked", 1, []), ("Ratio", 2, [])]
def msh_Ratio___add__ : List (Str × Nat × List Str) := []
def cs_Ratio___add__ : Cs := ⟨[], []⟩
theorem chk_Ratio___add__ : fnScopeB N_Ratio___add__ (N_Ratio___add__.take 2) (defScope s_Ratio___add__) = true ∧ mSs 60 ⟨N_Ratio___add__, defScope s_Ratio___add__, fsh_Ratio___add__, msh_Ratio___add__, tx.cs, true, false⟩ cs_Ratio___add__ (defBody s_Ratio___add__) ir_Ratio___add__ = true := by decide +kernel
def fsh_Ratio___sub__ : List (Str × Nat × List Str) := [("checked", 1, []), ("Ratio", 2, [])]
def msh_Ratio___sub__ : List (Str × Nat × List Str) := []
def cs_Ratio___sub__ : Cs := ⟨[], []⟩
theorem chk_Ratio___sub__ : fnScopeB N_Ratio___sub__ (N_Ratio___sub__.take 2) (defScope s_Ratio___sub__) = true ∧ mSs 60 ⟨N_Ratio___sub__, defScope s_Ratio___sub__, fsh_Ratio___sub__, msh_Ratio___sub__, tx.cs, true, false⟩ cs_Ratio___sub__ (defBody s_Ratio___sub__) ir_Ratio___sub__ = true := by decide +kernel
def fsh_Ratio___mul__ : List (Str × Nat × List Str) := [("checked", 1, []), ("Ratio", 2, [])]
def msh_Ratio___mul__ : List (Str × Nat × List Str) := []
def cs_Ratio___mul__ : Cs := ⟨[], []⟩
theorem chk_Ratio___mul__ : fnScopeB N_Ratio___mul__ (N_Ratio___mul__.take 2) (defScope s_Ratio___mul__) = true ∧ mSs 60 ⟨N_Ratio___mul__, defScope s_Ratio___mul__, fsh_Ratio___mul__, msh_Ratio___mul__, tx.cs, true, false⟩ cs_Ratio___mul__ (defBody s_Ratio___mul__) ir_Ratio___mul__ = true := by decide +kernel
def fsh_Ratio___neg__ : List (Str × Nat × List Str) := [("Ratio", 2, [])]
def msh_Ratio___neg__ : List (Str × Nat × List Str) := []
def cs_Ratio___neg__ : Cs := ⟨[], []⟩
theorem chk_Ratio___neg__ : fnScopeB N_Ratio___neg__ (N_Ratio___neg__.take 1) (defScope s_Ratio___neg__) = true ∧ mSs 60 ⟨N_Ratio___neg__, defScope s_Ratio___neg__, fsh_Ratio___neg__, msh_Ratio___neg__, tx.cs, true, false⟩ cs_Ratio___neg__ (defBody s_Ratio___neg__) ir_Ratio___neg__ = true := by decide +kernel
def fsh_Ratio___eq__ : List (Str × Nat × List Str) := [("parts", 1, [])]
def msh_Ratio___eq__ : List (Str × Nat × List Str) := []
def cs_Ratio___eq__ : Cs := ⟨[], []⟩
theorem chk_Ratio___eq__ : fnScopeB N_Ratio___eq__ (N_Ratio___eq__.take 2) (defScope s_Ratio___eq__) = true ∧ mSs 60 ⟨N_Ratio___eq__, defScope s_Ratio___eq__, fsh_Ratio___eq__, msh_Ratio___eq__, tx.cs, true, false⟩ cs_Ratio___eq__ (defBody s_Ratio___eq__) ir_Ratio___eq__ = true := by decide +kernel
def fsh_Ratio___lt__ : List (Str × Nat × List Str) := [("checked", 1, [])]
def msh_Ratio___lt__ : List (Str × Nat × List Str) := []
def cs_Ratio___lt__ : Cs := ⟨[], []⟩
theorem chk_Ratio___lt__ : fnScopeB N_Ratio___lt__ (N_Ratio___lt__.take 2) (defScope s_Ratio___lt__) = true ∧ mSs 60 ⟨N_Ratio___lt__, defScope s_Ratio___lt__, fsh_Ratio___lt__, msh_Ratio___lt__, tx.cs, true, false⟩ cs_Ratio___lt__ (defBody s_Ratio___lt__) ir_Ratio___lt__ = true := by decide +kernel
def fsh_Ratio___le__ : List (Str × Nat × List Str) := [("checked", 1, [])]
def msh_Ratio___le__ : List (Str × Nat × List Str) := []
def cs_Ratio___le__ : Cs := ⟨[], []⟩
theorem chk_Ratio___le__ : fnScopeB N_Ratio___le__ (N_Ratio___le__.take 2) (defScope s_Ratio___le__) = true ∧ mSs 60 ⟨N_Ratio___le__, defScope s_Ratio___le__, fsh_Ratio___le__, msh_Ratio___le__, tx.cs, true, false⟩ cs_Ratio___le__ (defBody s_Ratio___le__) ir_Ratio___le__ = true := by decide +kernel
def fsh__law_cell : List (Str × Nat × List Str) := []
def msh__law_cell : List (Str × Nat × List Str) := []
def cs__law_cell : Cs := ⟨[], []⟩
theorem chk__law_cell : fnScopeB N__law_cell (N__law_cell.take 2) (defScope s__law_cell) = true ∧ mSs 60 ⟨N__law_cell, defScope s__law_cell, fsh__law_cell, msh__law_cell, tx.cs, true, false⟩ cs__law_cell (defBody s__law_cell) ir__law_cell = true := by decide +kernel
def fsh__law_box : List (Str × Nat × List Str) := [("_law_cell", 2, [])]
def msh__law_box : List (Str × Nat × List Str) := []
def cs__law_box : Cs := ⟨[], []⟩
theorem chk__law_box : fnScopeB N__law_box (N__law_box.take 2) (defScope s__law_box) = true ∧ mSs 60 ⟨N__law_box, defScope s__law_box, fsh__law_box, msh__law_box, tx.cs, true, false⟩ cs__law_box (defBody s__law_box) ir__law_box = true := by decide +kernel
def fsh__law_frac : List (Str × Nat × List Str) := []
def msh__law_frac : List (Str × Nat × List Str) := []
def cs__law_frac : Cs := ⟨[], []⟩
theorem chk__law_frac : fnScopeB N__law_frac (N__law_frac.take 2) (defScope s__law_frac) = true ∧ mSs 60 ⟨N__law_frac, defScope s__law_frac, fsh__law_frac, msh__law_frac, tx.cs, true, false⟩ cs__law_frac (defBody s__law_frac) ir__law_frac = true := by decide +kernel
def fsh__law_take : List (Str × Nat × List Str) := []
def msh__law_take : List (Str × Nat × List Str) := []
def cs__law_take : Cs := ⟨[], []⟩
theorem chk__law_take : fnScopeB N__law_take (N__law_take.take 2) (defScope s__law_take) = true ∧ mSs 60 ⟨N__law_take, defScope s__law_take, fsh__law_take, msh__law_take, tx.cs, true, false⟩ cs__law_take (defBody s__law_take) ir__law_take = true := by decide +kernel
def fsh__law_plus : List (Str × Nat × List Str) := [("_law_frac", 2, [])]
def msh__law_plus : List (Str × Nat × List Str) := []
def cs__law_plus : Cs := ⟨[], []⟩
theorem chk__law_plus : fnScopeB N__law_plus (N__law_plus.take 2) (defScope s__law_plus) = true ∧ mSs 60 ⟨N__law_plus, defScope s__law_plus, fsh__law_plus, msh__law_plus, tx.cs, true, false⟩ cs__law_plus (defBody s__law_plus) ir__law_plus = true := by decide +kernel
def fsh__law_less : List (Str × Nat × List Str) := []
def msh__law_less : List (Str × Nat × List Str) := []
def cs__law_less : Cs := ⟨[], []⟩
theorem chk__law_less : fnScopeB N__law_less (N__law_less.take 2) (defScope s__law_less) = true ∧ mSs 60 ⟨N__law_less, defScope s__law_less, fsh__law_less, msh__law_less, tx.cs, true, false⟩ cs__law_less (defBody s__law_less) ir__law_less = true := by decide +kernel
def fsh__law_steps : List (Str × Nat × List Str) := [("_law_frac", 2, []), ("_law_take", 2, []), ("_law_plus", 2, []), ("_law_less", 2, [])]
def msh__law_steps : List (Str × Nat × List Str) := []
def cs__law_steps : Cs := ⟨[], []⟩
theorem chk__law_steps : fnScopeB N__law_steps (N__law_steps.take 2) (defScope s__law_steps) = true ∧ mSs 60 ⟨N__law_steps, defScope s__law_steps, fsh__law_steps, msh__law_steps, tx.cs, true, false⟩ cs__law_steps (defBody s__law_steps) ir__law_steps = true := by decide +kernel
def fsh_is_amount : List (Str × Nat × List Str) := [("parts", 1, [])]
def msh_is_amount : List (Str × Nat × List Str) := []
def cs_is_amount : Cs := ⟨[], []⟩
theorem chk_is_amount : fnScopeB N_is_amount (N_is_amount.take 1) (defScope s_is_amount) = true ∧ mSs 60 ⟨N_is_amount, defScope s_is_amount, fsh_is_amount, msh_is_amount, tx.cs, true, false⟩ cs_is_amount (defBody s_is_amount) ir_is_amount = true := by decide +kernel
def fsh_as_ratio : List (Str × Nat × List Str) := [("checked", 1, []), ("Ratio", 2, [])]
def msh_as_ratio : List (Str × Nat × List Str) := []
def cs_as_ratio : Cs := ⟨[], []⟩
theorem chk_as_ratio : fnScopeB N_as_ratio (N_as_ratio.take 1) (defScope s_as_ratio) = true ∧ mSs 60 ⟨N_as_ratio, defScope s_as_ratio, fsh_as_ratio, msh_as_ratio, tx.cs, true, false⟩ cs_as_ratio (defBody s_as_ratio) ir_as_ratio = true := by decide +kernel
def fsh_is_use : List (Str × Nat × List Str) := [("as_ratio", 1, []), ("is_amount", 1, [])]
def msh_is_use : List (Str × Nat × List Str) := []
def cs_is_use : Cs := ⟨[], []⟩
theorem chk_is_use : fnScopeB N_is_use (N_is_use.take 1) (defScope s_is_use) = true ∧ mSs 60 ⟨N_is_use, defScope s_is_use, fsh_is_use, msh_is_use, tx.cs, true, false⟩ cs_is_use (defBody s_is_use) ir_is_use = true := by decide +kernel
def fsh_is_step : List (Str × Nat × List Str) := [("is_amount", 1, []), ("is_use", 1, [])]
def msh_is_step : List (Str × Nat × List Str) := []
def cs_is_step : Cs := ⟨[], []⟩
theorem chk_is_step : fnScopeB N_is_step (N_is_step.take 1) (defScope s_is_step) = true ∧ mSs 60 ⟨N_is_step, defScope s_is_step, fsh_is_step, msh_is_step, tx.cs, true, false⟩ cs_is_step (defBody s_is_step) ir_is_step = true := by decide +kernel
def fsh_are_steps : List (Str × Nat × List Str) := [("is_step", 1, []), ("as_ratio", 1, [])]
def msh_are_steps : List (Str × Nat × List Str) := []
def cs_are_steps : Cs := ⟨[], []⟩
theorem chk_are_steps : fnScopeB N_are_steps (N_are_steps.take 1) (defScope s_are_steps) = true ∧ mSs 60 ⟨N_are_steps, defScope s_are_steps, fsh_are_steps, msh_are_steps, tx.cs, true, false⟩ cs_are_steps (defBody s_are_steps) ir_are_steps = true := by decide +kernel
def fsh_fewest_steps : List (Str × Nat × List Str) := [("as_ratio", 1, [])]
def msh_fewest_steps : List (Str × Nat × List Str) := []
def cs_fewest_steps : Cs := ⟨[], []⟩
theorem chk_fewest_steps : fnScopeB N_fewest_steps (N_fewest_steps.take 1) (defScope s_fewest_steps) = true ∧ mSs 60 ⟨N_fewest_steps, defScope s_fewest_steps, fsh_fewest_steps, msh_fewest_steps, tx.cs, true, false⟩ cs_fewest_steps (defBody s_fewest_steps) ir_fewest_steps = true := by decide +kernel
def fsh_Rule___init__ : List (Str × Nat × List Str) := [("are_steps", 1, []), ("fewest_steps", 1, [])]
def msh_Rule___init__ : List (Str × Nat × List Str) := []
def cs_Rule___init__ : Cs := ⟨[("BadRule", false)], []⟩
theorem chk_Rule___init__ : fnScopeB N_Rule___init__ (N_Rule___init__.take 2) (defScope s_Rule___init__) = true ∧ mSs 60 ⟨N_Rule___init__, defScope s_Rule___init__, fsh_Rule___init__, msh_Rule___init__, tx.cs, true, false⟩ cs_Rule___init__ (defBody s_Rule___init__) ir_Rule___init__ = true := by decide +kernel
def fsh__law_ratio : List (Str × Nat × List Str) := [("Ratio", 2, [])]
def msh__law_ratio : List (Str × Nat × List Str) := []
def cs__law_ratio : Cs := ⟨[], []⟩
theorem chk__law_ratio : fnScopeB N__law_ratio (N__law_ratio.take 1) (defScope s__law_ratio) = true ∧ mSs 60 ⟨N__law_ratio, defScope s__law_ratio, fsh__law_ratio, msh__law_ratio, tx.cs, true, false⟩ cs__law_ratio (defBody s__law_ratio) ir__law_ratio = true := by decide +kernel
def fsh__law_rule : List (Str × Nat × List Str) := [("Rule", 1, []), ("_law_ratio", 1, [])]
def msh__law_rule : List (Str × Nat × List Str) := []
def cs__law_rule : Cs := ⟨[], []⟩
theorem chk__law_rule : fnScopeB N__law_rule (N__law_rule.take 1) (defScope s__law_rule) = true ∧ mSs 60 ⟨N__law_rule, defScope s__law_rule, fsh__law_rule, msh__law_rule, tx.cs, true, false⟩ cs__law_rule (defBody s__law_rule) ir__law_rule = true := by decide +kernel
def fsh__law_use : List (Str × Nat × List Str) := [("_law_take", 2, []), ("_law_frac", 2, [])]
def msh__law_use : List (Str × Nat × List Str) := []
def cs__law_use : Cs := ⟨[], []⟩
theorem chk__law_use : fnScopeB N__law_use (N__law_use.take 2) (defScope s__law_use) = true ∧ mSs 60 ⟨N__law_use, defScope s__law_use, fsh__law_use, msh__law_use, tx.cs, true, false⟩ cs__law_use (defBody s__law_use) ir__law_use = true := by decide +kernel
def fsh_check_use : List (Str × Nat × List Str) := [("is_use", 1, [])]
def msh_check_use : List (Str × Nat × List Str) := []
def cs_check_use : Cs := ⟨[("BadUse", true)], []⟩
theorem chk_check_use : fnScopeB N_check_use (N_check_use.take 1) (defScope s_check_use) = true ∧ mSs 60 ⟨N_check_use, defScope s_check_use, fsh_check_use, msh_check_use, tx.cs, true, false⟩ cs_check_use (defBody s_check_use) ir_check_use = true := by decide +kernel
def fsh_Rule_rate : List (Str × Nat × List Str) := [("check_use", 1, [])]
def msh_Rule_rate : List (Str × Nat × List Str) := []
def cs_Rule_rate : Cs := ⟨[], []⟩
theorem chk_Rule_rate : fnScopeB N_Rule_rate (N_Rule_rate.take 2) (defScope s_Rule_rate) = true ∧ mSs 60 ⟨N_Rule_rate, defScope s_Rule_rate, fsh_Rule_rate, msh_Rule_rate, tx.cs, true, false⟩ cs_Rule_rate (defBody s_Rule_rate) ir_Rule_rate = true := by decide +kernel
def fsh_dearer : List (Str × Nat × List Str) := [("check_use", 1, []), ("Ratio", 1, [])]
def msh_dearer : List (Str × Nat × List Str) := [("rate", 1, [])]
def cs_dearer : Cs := ⟨[], []⟩
theorem chk_dearer : fnScopeB N_dearer (N_dearer.take 3) (defScope s_dearer) = true ∧ mSs 60 ⟨N_dearer, defScope s_dearer, fsh_dearer, msh_dearer, tx.cs, true, false⟩ cs_dearer (defBody s_dearer) ir_dearer = true := by decide +kernel
def fsh__law_row : List (Str × Nat × List Str) := []
def msh__law_row : List (Str × Nat × List Str) := []
def cs__law_row : Cs := ⟨[], []⟩
theorem chk__law_row : fnScopeB N__law_row (N__law_row.take 1) (defScope s__law_row) = true ∧ mSs 60 ⟨N__law_row, defScope s__law_row, fsh__law_row, msh__law_row, tx.cs, true, false⟩ cs__law_row (defBody s__law_row) ir__law_row = true := by decide +kernel
def fsh__law_times : List (Str × Nat × List Str) := [("_law_frac", 2, [])]
def msh__law_times : List (Str × Nat × List Str) := []
def cs__law_times : Cs := ⟨[], []⟩
theorem chk__law_times : fnScopeB N__law_times (N__law_times.take 2) (defScope s__law_times) = true ∧ mSs 60 ⟨N__law_times, defScope s__law_times, fsh__law_times, msh__law_times, tx.cs, true, false⟩ cs__law_times (defBody s__law_times) ir__law_times = true := by decide +kernel
def fsh__law_rate : List (Str × Nat × List Str) := [("_law_less", 2, [])]
def msh__law_rate : List (Str × Nat × List Str) := []
def cs__law_rate : Cs := ⟨[], []⟩
theorem chk__law_rate : fnScopeB N__law_rate (N__law_rate.take 2) (defScope s__law_rate) = true ∧ mSs 60 ⟨N__law_rate, defScope s__law_rate, fsh__law_rate, msh__law_rate, tx.cs, true, false⟩ cs__law_rate (defBody s__law_rate) ir__law_rate = true := by decide +kernel
def fsh__law_grown : List (Str × Nat × List Str) := [("_law_times", 2, []), ("_law_plus", 2, []), ("_law_rate", 2, [])]
def msh__law_grown : List (Str × Nat × List Str) := []
def cs__law_grown : Cs := ⟨[], []⟩
theorem chk__law_grown : fnScopeB N__law_grown (N__law_grown.take 2) (defScope s__law_grown) = true ∧ mSs 60 ⟨N__law_grown, defScope s__law_grown, fsh__law_grown, msh__law_grown, tx.cs, true, false⟩ cs__law_grown (defBody s__law_grown) ir__law_grown = true := by decide +kernel
def fsh_Rule_steps : List (Str × Nat × List Str) := []
def msh_Rule_steps : List (Str × Nat × List Str) := []
def cs_Rule_steps : Cs := ⟨[], []⟩
theorem chk_Rule_steps : fnScopeB N_Rule_steps (N_Rule_steps.take 1) (defScope s_Rule_steps) = true ∧ mSs 60 ⟨N_Rule_steps, defScope s_Rule_steps, fsh_Rule_steps, msh_Rule_steps, tx.cs, true, false⟩ cs_Rule_steps (defBody s_Rule_steps) ir_Rule_steps = true := by decide +kernel
def fsh_less_at : List (Str × Nat × List Str) := []
def msh_less_at : List (Str × Nat × List Str) := [("steps", 0, []), ("rate", 1, [])]
def cs_less_at : Cs := ⟨[], []⟩
theorem chk_less_at : fnScopeB N_less_at (N_less_at.take 2) (defScope s_less_at) = true ∧ mSs 60 ⟨N_less_at, defScope s_less_at, fsh_less_at, msh_less_at, tx.cs, true, false⟩ cs_less_at (defBody s_less_at) ir_less_at = true := by decide +kernel
def fsh_never_less : List (Str × Nat × List Str) := [("less_at", 2, [])]
def msh_never_less : List (Str × Nat × List Str) := []
def cs_never_less : Cs := ⟨[], []⟩
theorem chk_never_less : fnScopeB N_never_less (N_never_less.take 2) (defScope s_never_less) = true ∧ mSs 60 ⟨N_never_less, defScope s_never_less, fsh_never_less, msh_never_less, tx.cs, true, false⟩ cs_never_less (defBody s_never_less) ir_never_less = true := by decide +kernel
def fsh_never_dearer : List (Str × Nat × List Str) := [("never_less", 2, [])]
def msh_never_dearer : List (Str × Nat × List Str) := []
def cs_never_dearer : Cs := ⟨[], []⟩
theorem chk_never_dearer : fnScopeB N_never_dearer (N_never_dearer.take 2) (defScope s_never_dearer) = true ∧ mSs 60 ⟨N_never_dearer, defScope s_never_dearer, fsh_never_dearer, msh_never_dearer, tx.cs, true, false⟩ cs_never_dearer (defBody s_never_dearer) ir_never_dearer = true := by decide +kernel
def fsh_dearer_at : List (Str × Nat × List Str) := [("less_at", 2, [])]
def msh_dearer_at : List (Str × Nat × List Str) := []
def cs_dearer_at : Cs := ⟨[], []⟩
theorem chk_dearer_at : fnScopeB N_dearer_at (N_dearer_at.take 2) (defScope s_dearer_at) = true ∧ mSs 60 ⟨N_dearer_at, defScope s_dearer_at, fsh_dearer_at, msh_dearer_at, tx.cs, true, false⟩ cs_dearer_at (defBody s_dearer_at) ir_dearer_at = true := by decide +kernel
def fsh__law_told : List (Str × Nat × List Str) := []
def msh__law_told : List (Str × Nat × List Str) := []
def cs__law_told : Cs := ⟨[], []⟩
theorem chk__law_told : fnScopeB N__law_told (N__law_told.take 1) (defScope s__law_told) = true ∧ mSs 60 ⟨N__law_told, defScope s__law_told, fsh__law_told, msh__law_told, tx.cs, true, false⟩ cs__law_told (defBody s__law_told) ir__law_told = true := by decide +kernel
def fsh__law_refused : List (Str × Nat × List Str) := [("dearer", 3, [])]
def msh__law_refused : List (Str × Nat × List Str) := []
def cs__law_refused : Cs := ⟨[], ["BadUse"]⟩
theorem chk__law_refused : fnScopeB N__law_refused (N__law_refused.take 3) (defScope s__law_refused) = true ∧ mSs 60 ⟨N__law_refused, defScope s__law_refused, fsh__law_refused, msh__law_refused, tx.cs, true, false⟩ cs__law_refused (defBody s__law_refused) ir__law_refused = true := by decide +kernel
def fsh_law : List (Str × Nat × List Str) := [("_law_box", 2, []), ("_law_steps", 2, []), ("_law_take", 2, []), ("_law_plus", 2, []), ("_law_rule", 1, []), ("_law_use", 2, []), ("_law_ratio", 1, []), ("dearer", 3, []), ("_law_row", 1, []), ("_law_grown", 2, []), ("_law_less", 2, []), ("_law_rate", 2, []), ("never_dearer", 2, []), ("dearer_at", 2, []), ("_law_told", 1, []), ("_law_refused", 3, [])]
def msh_law : List (Str × Nat × List Str) := []
def cs_law : Cs := ⟨[], []⟩
theorem chk_law : fnScopeB N_law (N_law.take 1) (defScope s_law) = true ∧ mSs 60 ⟨N_law, defScope s_law, fsh_law, msh_law, tx.cs, true, false⟩ cs_law (defBody s_law) ir_law = true := by decide +kernel
end K56
end

section
set_option Elab.async false
set_option linter.all false
set_option maxRecDepth 100000
set_option maxHeartbeats 0
namespace K56
open PySem L2 DI
open PyProof.Rows hiding St
def flds : List (Nat × Str) := [(0, "bottom"), (0, "top"), (1, "rows")]
def g0 : G := { fld := flds }
noncomputable def m_is_integer : DI.Sem := evF g0 ⟨1, 1, ir_is_integer⟩
noncomputable def g_parts : G := { fn := [m_is_integer], fld := flds }
noncomputable def m_parts : DI.Sem := evF g_parts ⟨1, 1, ir_parts⟩
noncomputable def g_checked : G := { fn := [m_parts], fld := flds }
noncomputable def m_checked : DI.Sem := evF g_checked ⟨2, 1, ir_checked⟩
noncomputable def m_divisor_of : DI.Sem := evF g0 ⟨2, 2, ir_divisor_of⟩
noncomputable def g_init : G := { fn := [m_divisor_of], fld := flds }
noncomputable def m_Ratio2 : DI.Sem := evC0 g_init 0 ⟨4, 3, ir_Ratio___init__⟩
noncomputable def m_Ratio1 : DI.Sem := fun ds m => m_Ratio2 (ds ++ [.int 1]) m
noncomputable def g_Ratio___add__ : G := { fn := [m_checked, m_Ratio2], fld := flds }
noncomputable def m_Ratio___add__ : DI.Sem := evF g_Ratio___add__ ⟨4, 2, ir_Ratio___add__⟩
noncomputable def g_Ratio___sub__ : G := { fn := [m_checked, m_Ratio2], fld := flds }
noncomputable def m_Ratio___sub__ : DI.Sem := evF g_Ratio___sub__ ⟨4, 2, ir_Ratio___sub__⟩
noncomputable def g_Ratio___mul__ : G := { fn := [m_checked, m_Ratio2], fld := flds }
noncomputable def m_Ratio___mul__ : DI.Sem := evF g_Ratio___mul__ ⟨4, 2, ir_Ratio___mul__⟩
noncomputable def g_Ratio___neg__ : G := { fn := [m_Ratio2], fld := flds }
noncomputable def m_Ratio___neg__ : DI.Sem := evF g_Ratio___neg__ ⟨1, 1, ir_Ratio___neg__⟩
noncomputable def g_Ratio___eq__ : G := { fn := [m_parts], fld := flds }
noncomputable def m_Ratio___eq__ : DI.Sem := evF g_Ratio___eq__ ⟨2, 2, ir_Ratio___eq__⟩
noncomputable def g_Ratio___lt__ : G := { fn := [m_checked], fld := flds }
noncomputable def m_Ratio___lt__ : DI.Sem := evF g_Ratio___lt__ ⟨4, 2, ir_Ratio___lt__⟩
noncomputable def g_Ratio___le__ : G := { fn := [m_checked], fld := flds }
noncomputable def m_Ratio___le__ : DI.Sem := evF g_Ratio___le__ ⟨4, 2, ir_Ratio___le__⟩
/-- the operators of Ratio -/
noncomputable def withOps (fs : List DI.Sem) (me : List (List (Nat × DI.Sem))) : G := { fn := fs, me := me, add := [(0, m_Ratio___add__)], sub := [(0, m_Ratio___sub__)], mul := [(0, m_Ratio___mul__)], neg := [(0, m_Ratio___neg__)], eq := [(0, m_Ratio___eq__)], lt := [(0, m_Ratio___lt__)], le := [(0, m_Ratio___le__)], fld := flds }
noncomputable def g__law_cell : G := withOps [] []
noncomputable def m__law_cell : DI.Sem := evF g__law_cell ⟨2, 2, ir__law_cell⟩
noncomputable def g__law_box : G := withOps [m__law_cell] []
noncomputable def m__law_box : DI.Sem := evF g__law_box ⟨2, 2, ir__law_box⟩
noncomputable def g__law_frac : G := withOps [] []
noncomputable def m__law_frac : DI.Sem := evF g__law_frac ⟨4, 2, ir__law_frac⟩
noncomputable def g__law_take : G := withOps [] []
noncomputable def m__law_take : DI.Sem := evF g__law_take ⟨4, 2, ir__law_take⟩
noncomputable def g__law_plus : G := withOps [m__law_frac] []
noncomputable def m__law_plus : DI.Sem := evF g__law_plus ⟨2, 2, ir__law_plus⟩
noncomputable def g__law_less : G := withOps [] []
noncomputable def m__law_less : DI.Sem := evF g__law_less ⟨2, 2, ir__law_less⟩
noncomputable def g__law_steps : G := withOps [m__law_frac, m__law_take, m__law_plus, m__law_less] []
noncomputable def m__law_steps : DI.Sem := evF g__law_steps ⟨7, 2, ir__law_steps⟩
noncomputable def g_is_amount : G := withOps [m_parts] []
noncomputable def m_is_amount : DI.Sem := evF g_is_amount ⟨2, 1, ir_is_amount⟩
noncomputable def g_as_ratio : G := withOps [m_checked, m_Ratio2] []
noncomputable def m_as_ratio : DI.Sem := evF g_as_ratio ⟨3, 1, ir_as_ratio⟩
noncomputable def g_is_use : G := withOps [m_as_ratio, m_is_amount] []
noncomputable def m_is_use : DI.Sem := evF g_is_use ⟨1, 1, ir_is_use⟩
noncomputable def g_is_step : G := withOps [m_is_amount, m_is_use] []
noncomputable def m_is_step : DI.Sem := evF g_is_step ⟨1, 1, ir_is_step⟩
noncomputable def g_are_steps : G := withOps [m_is_step, m_as_ratio] []
noncomputable def m_are_steps : DI.Sem := evF g_are_steps ⟨5, 1, ir_are_steps⟩
noncomputable def g_fewest_steps : G := withOps [m_as_ratio] []
noncomputable def m_fewest_steps : DI.Sem := evF g_fewest_steps ⟨4, 1, ir_fewest_steps⟩
noncomputable def g_Rule___init__ : G := withOps [m_are_steps, m_fewest_steps] []
noncomputable def m_Rule1 : DI.Sem := evC0 g_Rule___init__ 1 ⟨2, 2, ir_Rule___init__⟩
noncomputable def g__law_ratio : G := withOps [m_Ratio2] []
noncomputable def m__law_ratio : DI.Sem := evF g__law_ratio ⟨1, 1, ir__law_ratio⟩
noncomputable def g__law_rule : G := withOps [m_Rule1, m__law_ratio] []
noncomputable def m__law_rule : DI.Sem := evF g__law_rule ⟨3, 1, ir__law_rule⟩
noncomputable def g__law_use : G := withOps [m__law_take, m__law_frac] []
noncomputable def m__law_use : DI.Sem := evF g__law_use ⟨2, 2, ir__law_use⟩
noncomputable def g_check_use : G := withOps [m_is_use] []
noncomputable def m_check_use : DI.Sem := evF g_check_use ⟨1, 1, ir_check_use⟩
noncomputable def g_Rule_rate : G := withOps [m_check_use] []
noncomputable def m_Rule_rate : DI.Sem := evF g_Rule_rate ⟨3, 2, ir_Rule_rate⟩
noncomputable def g_dearer : G := withOps [m_check_use, m_Ratio1] [[(1, m_Rule_rate)]]
noncomputable def m_dearer : DI.Sem := evF g_dearer ⟨6, 3, ir_dearer⟩
noncomputable def g__law_row : G := withOps [] []
noncomputable def m__law_row : DI.Sem := evF g__law_row ⟨2, 1, ir__law_row⟩
noncomputable def g__law_times : G := withOps [m__law_frac] []
noncomputable def m__law_times : DI.Sem := evF g__law_times ⟨2, 2, ir__law_times⟩
noncomputable def g__law_rate : G := withOps [m__law_less] []
noncomputable def m__law_rate : DI.Sem := evF g__law_rate ⟨4, 2, ir__law_rate⟩
noncomputable def g__law_grown : G := withOps [m__law_times, m__law_plus, m__law_rate] []
noncomputable def m__law_grown : DI.Sem := evF g__law_grown ⟨4, 2, ir__law_grown⟩
noncomputable def g_Rule_steps : G := withOps [] []
noncomputable def m_Rule_steps : DI.Sem := evF g_Rule_steps ⟨1, 1, ir_Rule_steps⟩
noncomputable def g_less_at : G := withOps [] [[(1, m_Rule_steps)], [(1, m_Rule_rate)]]
noncomputable def m_less_at : DI.Sem := evF g_less_at ⟨4, 2, ir_less_at⟩
noncomputable def g_never_less : G := withOps [m_less_at] []
noncomputable def m_never_less : DI.Sem := evF g_never_less ⟨2, 2, ir_never_less⟩
noncomputable def g_never_dearer : G := withOps [m_never_less] []
noncomputable def m_never_dearer : DI.Sem := evF g_never_dearer ⟨2, 2, ir_never_dearer⟩
noncomputable def g_dearer_at : G := withOps [m_less_at] []
noncomputable def m_dearer_at : DI.Sem := evF g_dearer_at ⟨3, 2, ir_dearer_at⟩
noncomputable def g__law_told : G := withOps [] []
noncomputable def m__law_told : DI.Sem := evF g__law_told ⟨1, 1, ir__law_told⟩
noncomputable def g__law_refused : G := withOps [m_dearer] []
noncomputable def m__law_refused : DI.Sem := evF g__law_refused ⟨4, 3, ir__law_refused⟩
noncomputable def g_law : G := withOps [m__law_box, m__law_steps, m__law_take, m__law_plus, m__law_rule, m__law_use, m__law_ratio, m_dearer, m__law_row, m__law_grown, m__law_less, m__law_rate, m_never_dearer, m_dearer_at, m__law_told, m__law_refused] []
noncomputable def m_law : DI.Sem := evF g_law ⟨16, 1, ir_law⟩
end K56
end

section
set_option Elab.async false
set_option linter.all false
set_option maxRecDepth 100000
set_option maxHeartbeats 0
namespace K56
open PySem L2 DI
open PyProof.Rows hiding St

section
variable {P : Program} {w : World} {K : PySem.W.Frag} {mg : Str → Option Value} {base : Heap}
theorem e_ByZero (C : Ctx tp P w K mg base) (lv : Nat) : ErrC P w K mg base (lv + 8) "ByZero" (He.ga K "ByZero") none := by
  obtain ⟨h1, h2, h4⟩ := C.errF (e := "ByZero") (by decide +kernel)
  obtain ⟨fd, F⟩ := C.c.def_ (d := d_ByZero___init__) (by simp [tp, fn])
  obtain ⟨l1, l2⟩ := loanB_ok h1
  simp only [initB, Bool.and_eq_true, decide_eq_true_eq] at h4
  have ein := C.B.ein "ByZero" (by decide +kernel) (by decide +kernel)
  refine ⟨C.mg _ (by simp [tp, fa]), oexB_ok h2, ein.2.1, ⟨He.ma K (He.ga K "ByZero") "__init__", fd, ["self"], h4.1, h4.2, F.bindsN fun _ _ _ _ _ _ us hl => match us, hl with | [_], _ => rfl, ?_⟩, fun f hf => by cases hf⟩
  exact err_fn0 (oexB_ok h2) F (fnScopeB_ok (by decide +kernel)) (by decide +kernel) (by decide +kernel) (by decide +kernel) C.B.loan l1 l2
theorem e_BadNumber (C : Ctx tp P w K mg base) (lv : Nat) : ErrC P w K mg base (lv + 8) "BadNumber" (He.ga K "BadNumber") (some (excAttr "BadNumber")) := by
  obtain ⟨h1, h3, h5⟩ := C.errF (e := "BadNumber") (by decide +kernel)
  obtain ⟨fd, F⟩ := C.c.def_ (d := d_BadNumber___init__) (by simp [tp, fn])
  obtain ⟨l1, l2⟩ := loanB_ok h1
  simp only [initB, Bool.and_eq_true, decide_eq_true_eq] at h5
  have ein := C.B.ein "BadNumber" (by decide +kernel) (by decide +kernel)
  have ea : excAttr "BadNumber" = "given" := by decide +kernel
  rw [ea] at ein ⊢
  refine ⟨C.mg _ (by simp [tp, fa]), oexB_ok h3, ein.2.1, ⟨He.ma K (He.ga K "BadNumber") "__init__", fd, ["self", "given"], h5.1, h5.2, F.bindsN fun _ _ _ _ _ _ us hl => match us, hl with | [_, _], _ => rfl, ?_⟩, fun f hf => by cases hf; exact ein.2.2⟩
  exact err_fn1 (oexB_ok h3) ein.2.2 F (fnScopeB_ok (by decide +kernel)) (by decide +kernel) (by decide +kernel) (by decide +kernel) (by decide +kernel) (by decide +kernel) (by decide +kernel) C.B.loan l1 l2
theorem e_BadText (C : Ctx tp P w K mg base) (lv : Nat) : ErrC P w K mg base (lv + 8) "BadText" (He.ga K "BadText") none := by
  obtain ⟨h1, h2, h4⟩ := C.errF (e := "BadText") (by decide +kernel)
  obtain ⟨fd, F⟩ := C.c.def_ (d := d_BadText___init__) (by simp [tp, fn])
  obtain ⟨l1, l2⟩ := loanB_ok h1
  simp only [initB, Bool.and_eq_true, decide_eq_true_eq] at h4
  have ein := C.B.ein "BadText" (by decide +kernel) (by decide +kernel)
  refine ⟨C.mg _ (by simp [tp, fa]), oexB_ok h2, ein.2.1, ⟨He.ma K (He.ga K "BadText") "__init__", fd, ["self"], h4.1, h4.2, F.bindsN fun _ _ _ _ _ _ us hl => match us, hl with | [_], _ => rfl, ?_⟩, fun f hf => by cases hf⟩
  exact err_fn0 (oexB_ok h2) F (fnScopeB_ok (by decide +kernel)) (by decide +kernel) (by decide +kernel) (by decide +kernel) C.B.loan l1 l2
theorem e_BadRule (C : Ctx tp P w K mg base) (lv : Nat) : ErrC P w K mg base (lv + 8) "BadRule" (He.ga K "BadRule") none := by
  obtain ⟨h1, h2, h4⟩ := C.errF (e := "BadRule") (by decide +kernel)
  obtain ⟨fd, F⟩ := C.c.def_ (d := d_BadRule___init__) (by simp [tp, fn])
  obtain ⟨l1, l2⟩ := loanB_ok h1
  simp only [initB, Bool.and_eq_true, decide_eq_true_eq] at h4
  have ein := C.B.ein "BadRule" (by decide +kernel) (by decide +kernel)
  refine ⟨C.mg _ (by simp [tp, fa]), oexB_ok h2, ein.2.1, ⟨He.ma K (He.ga K "BadRule") "__init__", fd, ["self"], h4.1, h4.2, F.bindsN fun _ _ _ _ _ _ us hl => match us, hl with | [_], _ => rfl, ?_⟩, fun f hf => by cases hf⟩
  exact err_fn0 (oexB_ok h2) F (fnScopeB_ok (by decide +kernel)) (by decide +kernel) (by decide +kernel) (by decide +kernel) C.B.loan l1 l2
theorem e_BadUse (C : Ctx tp P w K mg base) (lv : Nat) : ErrC P w K mg base (lv + 8) "BadUse" (He.ga K "BadUse") (some (excAttr "BadUse")) := by
  obtain ⟨h1, h3, h5⟩ := C.errF (e := "BadUse") (by decide +kernel)
  obtain ⟨fd, F⟩ := C.c.def_ (d := d_BadUse___init__) (by simp [tp, fn])
  obtain ⟨l1, l2⟩ := loanB_ok h1
  simp only [initB, Bool.and_eq_true, decide_eq_true_eq] at h5
  have ein := C.B.ein "BadUse" (by decide +kernel) (by decide +kernel)
  have ea : excAttr "BadUse" = "given" := by decide +kernel
  rw [ea] at ein ⊢
  refine ⟨C.mg _ (by simp [tp, fa]), oexB_ok h3, ein.2.1, ⟨He.ma K (He.ga K "BadUse") "__init__", fd, ["self", "given"], h5.1, h5.2, F.bindsN fun _ _ _ _ _ _ us hl => match us, hl with | [_, _], _ => rfl, ?_⟩, fun f hf => by cases hf; exact ein.2.2⟩
  exact err_fn1 (oexB_ok h3) ein.2.2 F (fnScopeB_ok (by decide +kernel)) (by decide +kernel) (by decide +kernel) (by decide +kernel) (by decide +kernel) (by decide +kernel) (by decide +kernel) C.B.loan l1 l2
theorem cin_Ratio (C : Ctx tp P w K mg base) : mg (clsName 0) = some (.ref (He.ga K "Ratio")) := (C.B.cin 0 (by decide +kernel)).1
theorem mk_Ratio (C : Ctx tp P w K mg base) : Mk K (He.ga K "Ratio") (He.ma K (He.ga K "Ratio") "__init__") := He.mkr_ok (C.glo (.mkr "Ratio") (by simp [tp, fa]))
theorem cin_Rule (C : Ctx tp P w K mg base) : mg (clsName 1) = some (.ref (He.ga K "Rule")) := (C.B.cin 1 (by decide +kernel)).1
theorem mk_Rule (C : Ctx tp P w K mg base) : Mk K (He.ga K "Rule") (He.ma K (He.ga K "Rule") "__init__") := He.mkr_ok (C.glo (.mkr "Rule") (by simp [tp, fa]))
theorem f_is_integer (C : Ctx tp P w K mg base) : ∃ fd, FunD K "is_integer" "is_integer" (defArgs s_is_integer) (defBody s_is_integer) (defScope s_is_integer) [] [] (He.fAd K d_is_integer.at_) fd ∧ FnG P w K mg base (L2.CX P w) 10 (He.fAd K d_is_integer.at_) fd (N_is_integer.take 1) (bodySp mg g0 N_is_integer 1 ir_is_integer) := by
  obtain ⟨fd, F⟩ := C.c.def_ (d := d_is_integer) (by simp [tp, fn])
  exact ⟨fd, F, def_ok (lv := 0) 60 F chk_is_integer.1 (C.ok0 ⟨rfl, rfl, rfl, rfl, rfl, rfl, rfl⟩ fun _ h => h) (C.envB .nil .nil)
    (C.B.envX (by decide +kernel) (by decide +kernel) fun p hp => by simp [cs_is_integer] at hp) chk_is_integer.2⟩
theorem r_is_integer (C : Ctx tp P w K mg base) : FnE P w K mg base 10 ("is_integer", 1, []) m_is_integer := by
  obtain ⟨fd, F, G⟩ := f_is_integer C
  exact ⟨_, C.mg _ (by simp [tp, fa]), F.kp, RunSh.pos (ps := N_is_integer.take 1) G (F.bindsN fun _ _ _ _ _ _ us hl => match us, hl with | [_], _ => rfl)⟩
theorem f_parts (C : Ctx tp P w K mg base) : ∃ fd, FunD K "parts" "parts" (defArgs s_parts) (defBody s_parts) (defScope s_parts) [] [] (He.fAd K d_parts.at_) fd ∧ FnG P w K mg base (L2.CX P w) 20 (He.fAd K d_parts.at_) fd (N_parts.take 1) (bodySp mg g_parts N_parts 1 ir_parts) := by
  obtain ⟨fd, F⟩ := C.c.def_ (d := d_parts) (by simp [tp, fn])
  exact ⟨fd, F, def_ok (lv := 10) 60 F chk_parts.1 (C.ok0 ⟨rfl, rfl, rfl, rfl, rfl, rfl, rfl⟩ fun _ h => h) (C.envB (.cons (FnE_mono (r_is_integer C) (by omega)) .nil) .nil)
    (C.B.envX (by decide +kernel) (by decide +kernel) fun p hp => by simp [cs_parts] at hp) chk_parts.2⟩
theorem r_parts (C : Ctx tp P w K mg base) : FnE P w K mg base 20 ("parts", 1, []) m_parts := by
  obtain ⟨fd, F, G⟩ := f_parts C
  exact ⟨_, C.mg _ (by simp [tp, fa]), F.kp, RunSh.pos (ps := N_parts.take 1) G (F.bindsN fun _ _ _ _ _ _ us hl => match us, hl with | [_], _ => rfl)⟩
theorem f_checked (C : Ctx tp P w K mg base) : ∃ fd, FunD K "checked" "checked" (defArgs s_checked) (defBody s_checked) (defScope s_checked) [] [] (He.fAd K d_checked.at_) fd ∧ FnG P w K mg base (L2.CX P w) 30 (He.fAd K d_checked.at_) fd (N_checked.take 1) (bodySp mg g_checked N_checked 1 ir_checked) := by
  obtain ⟨fd, F⟩ := C.c.def_ (d := d_checked) (by simp [tp, fn])
  exact ⟨fd, F, def_ok (lv := 20) 60 F chk_checked.1 (C.ok0 ⟨rfl, rfl, rfl, rfl, rfl, rfl, rfl⟩ fun _ h => h) (C.envB (.cons (FnE_mono (r_parts C) (by omega)) .nil) .nil)
    (C.B.envX (by decide +kernel) (by decide +kernel) fun p hp => by
    simp only [cs_checked, List.mem_cons, List.not_mem_nil, or_false] at hp
    rcases hp with rfl
    · exact ⟨_, e_BadNumber C _⟩) chk_checked.2⟩
theorem r_checked (C : Ctx tp P w K mg base) : FnE P w K mg base 30 ("checked", 1, []) m_checked := by
  obtain ⟨fd, F, G⟩ := f_checked C
  exact ⟨_, C.mg _ (by simp [tp, fa]), F.kp, RunSh.pos (ps := N_checked.take 1) G (F.bindsN fun _ _ _ _ _ _ us hl => match us, hl with | [_], _ => rfl)⟩
theorem f_divisor_of (C : Ctx tp P w K mg base) : ∃ fd, FunD K "divisor_of" "divisor_of" (defArgs s_divisor_of) (defBody s_divisor_of) (defScope s_divisor_of) [] [] (He.fAd K d_divisor_of.at_) fd ∧ FnG P w K mg base (L2.CX P w) 10 (He.fAd K d_divisor_of.at_) fd (N_divisor_of.take 2) (bodySp mg g0 N_divisor_of 2 ir_divisor_of) := by
  obtain ⟨fd, F⟩ := C.c.def_ (d := d_divisor_of) (by simp [tp, fn])
  exact ⟨fd, F, def_ok (lv := 0) 60 F chk_divisor_of.1 (C.ok0 ⟨rfl, rfl, rfl, rfl, rfl, rfl, rfl⟩ fun _ h => h) (C.envB .nil .nil)
    (C.B.envX (by decide +kernel) (by decide +kernel) fun p hp => by simp [cs_divisor_of] at hp) chk_divisor_of.2⟩
theorem r_divisor_of (C : Ctx tp P w K mg base) : FnE P w K mg base 10 ("divisor_of", 2, []) m_divisor_of := by
  obtain ⟨fd, F, G⟩ := f_divisor_of C
  exact ⟨_, C.mg _ (by simp [tp, fa]), F.kp, RunSh.pos (ps := N_divisor_of.take 2) G (F.bindsN fun _ _ _ _ _ _ us hl => match us, hl with | [_, _], _ => rfl)⟩
theorem f_Ratio___init__ (C : Ctx tp P w K mg base) : ∃ fd, FunD K "__init__" "Ratio.__init__" (defArgs s_Ratio___init__) (defBody s_Ratio___init__) (defScope s_Ratio___init__) [.int 1] [] (He.fAd K d_Ratio___init__.at_) fd ∧ FnG P w K mg base (L2.CX P w) 20 (He.fAd K d_Ratio___init__.at_) fd (N_Ratio___init__.take 3) (bodySp mg g_init N_Ratio___init__ 3 ir_Ratio___init__) := by
  obtain ⟨fd, F⟩ := C.c.def_ (d := d_Ratio___init__) (by simp [tp, fn])
  exact ⟨fd, F, def_ok (lv := 10) 60 F chk_Ratio___init__.1 (C.ok0 ⟨rfl, rfl, rfl, rfl, rfl, rfl, rfl⟩ fun _ h => h) (C.envB (.cons (FnE_mono (r_divisor_of C) (by omega)) .nil) .nil)
    (C.B.envX (by decide +kernel) (by decide +kernel) fun p hp => by
    simp only [cs_Ratio___init__, List.mem_cons, List.not_mem_nil, or_false] at hp
    rcases hp with rfl
    · exact ⟨_, e_ByZero C _⟩) chk_Ratio___init__.2⟩
theorem r_Ratio_2 (C : Ctx tp P w K mg base) : FnE P w K mg base 21 ("Ratio", 2, []) m_Ratio2 := by
  obtain ⟨fd, F, G⟩ := f_Ratio___init__ C
  obtain ⟨ds, vd, b⟩ := F.binds1 (ps := N_Ratio___init__.take 3) 3 1 (by simp) rfl fun _ _ _ _ _ _ _ us its h1 h2 => match us, its, h1, h2 with | [_, _, _], [_], _, _ => ⟨_, rfl, rfl⟩
  cases vd
  refine ⟨_, cin_Ratio C, (mk_Ratio C).kp, ?_⟩
  exact RunSh.of_class (c := 0) (gD := id) (gW := fun vs _ => vs) (mk_Ratio C) (cin_Ratio C) G (KBn.pos b) (fun _ _ _ => rfl) fun γ vs zs ds _ hz r => rvs_pos hz r
theorem r_Ratio_1 (C : Ctx tp P w K mg base) : FnE P w K mg base 21 ("Ratio", 1, []) m_Ratio1 := by
  obtain ⟨fd, F, G⟩ := f_Ratio___init__ C
  obtain ⟨ds, vd, b⟩ := F.binds1 (ps := N_Ratio___init__.take 3) 2 0 (by simp) rfl fun _ _ _ _ _ _ _ us its h1 h2 => match us, its, h1, h2 with | [_, _], [_], _, _ => ⟨_, rfl, rfl⟩
  have hl : 2 + ds.length = (N_Ratio___init__.take 3).length := by rw [← vd.length]; rfl
  refine ⟨_, cin_Ratio C, (mk_Ratio C).kp, ?_⟩
  exact RunSh.of_class (c := 0) (gD := fun ds => ds ++ [.int 1]) (gW := fun vs _ => vs ++ [.int 1]) (mk_Ratio C) (cin_Ratio C) G (KBn.posD b vd hl) (fun _ _ _ => rfl) fun γ vs zs ds _ hz r => RVs.append (rvs_pos hz r) (Paired.cons (show RV γ (V.int 1) (D.int 1) from rfl) .nil)
theorem f_Ratio___add__ (C : Ctx tp P w K mg base) : ∃ fd, FunD K "__add__" "Ratio.__add__" (defArgs s_Ratio___add__) (defBody s_Ratio___add__) (defScope s_Ratio___add__) [] [] (He.fAd K d_Ratio___add__.at_) fd ∧ FnG P w K mg base (L2.CX P w) 40 (He.fAd K d_Ratio___add__.at_) fd (N_Ratio___add__.take 2) (bodySp mg g_Ratio___add__ N_Ratio___add__ 2 ir_Ratio___add__) := by
  obtain ⟨fd, F⟩ := C.c.def_ (d := d_Ratio___add__) (by simp [tp, fn])
  exact ⟨fd, F, def_ok (lv := 30) 60 F chk_Ratio___add__.1 (C.ok0 ⟨rfl, rfl, rfl, rfl, rfl, rfl, rfl⟩ fun _ h => h) (C.envB (.cons (FnE_mono (r_checked C) (by omega)) (.cons (FnE_mono (r_Ratio_2 C) (by omega)) .nil)) .nil)
    (C.B.envX (by decide +kernel) (by decide +kernel) fun p hp => by simp [cs_Ratio___add__] at hp) chk_Ratio___add__.2⟩
theorem o_Ratio___add__ (C : Ctx tp P w K mg base) : MethSh P w K mg base 40 0 "__add__" 1 [] m_Ratio___add__ := by
  obtain ⟨fd, F, G⟩ := f_Ratio___add__ C
  exact ⟨_, _, cin_Ratio C, He.meth_ok (C.glo (.meth "Ratio" "__add__") (by simp [tp, fa])), RunSh.pos (ps := N_Ratio___add__.take 2) G (F.bindsN fun _ _ _ _ _ _ us hl => match us, hl with | [_, _], _ => rfl)⟩
theorem f_Ratio___sub__ (C : Ctx tp P w K mg base) : ∃ fd, FunD K "__sub__" "Ratio.__sub__" (defArgs s_Ratio___sub__) (defBody s_Ratio___sub__) (defScope s_Ratio___sub__) [] [] (He.fAd K d_Ratio___sub__.at_) fd ∧ FnG P w K mg base (L2.CX P w) 40 (He.fAd K d_Ratio___sub__.at_) fd (N_Ratio___sub__.take 2) (bodySp mg g_Ratio___sub__ N_Ratio___sub__ 2 ir_Ratio___sub__) := by
  obtain ⟨fd, F⟩ := C.c.def_ (d := d_Ratio___sub__) (by simp [tp, fn])
  exact ⟨fd, F, def_ok (lv := 30) 60 F chk_Ratio___sub__.1 (C.ok0 ⟨rfl, rfl, rfl, rfl, rfl, rfl, rfl⟩ fun _ h => h) (C.envB (.cons (FnE_mono (r_checked C) (by omega)) (.cons (FnE_mono (r_Ratio_2 C) (by omega)) .nil)) .nil)
    (C.B.envX (by decide +kernel) (by decide +kernel) fun p hp => by simp [cs_Ratio___sub__] at hp) chk_Ratio___sub__.2⟩
theorem o_Ratio___sub__ (C : Ctx tp P w K mg base) : MethSh P w K mg base 40 0 "__sub__" 1 [] m_Ratio___sub__ := by
  obtain ⟨fd, F, G⟩ := f_Ratio___sub__ C
  exact ⟨_, _, cin_Ratio C, He.meth_ok (C.glo (.meth "Ratio" "__sub__") (by simp [tp, fa])), RunSh.pos (ps := N_Ratio___sub__.take 2) G (F.bindsN fun _ _ _ _ _ _ us hl => match us, hl with | [_, _], _ => rfl)⟩
theorem f_Ratio___mul__ (C : Ctx tp P w K mg base) : ∃ fd, FunD K "__mul__" "Ratio.__mul__" (defArgs s_Ratio___mul__) (defBody s_Ratio___mul__) (defScope s_Ratio___mul__) [] [] (He.fAd K d_Ratio___mul__.at_) fd ∧ FnG P w K mg base (L2.CX P w) 40 (He.fAd K d_Ratio___mul__.at_) fd (N_Ratio___mul__.take 2) (bodySp mg g_Ratio___mul__ N_Ratio___mul__ 2 ir_Ratio___mul__) := by
  obtain ⟨fd, F⟩ := C.c.def_ (d := d_Ratio___mul__) (by simp [tp, fn])
  exact ⟨fd, F, def_ok (lv := 30) 60 F chk_Ratio___mul__.1 (C.ok0 ⟨rfl, rfl, rfl, rfl, rfl, rfl, rfl⟩ fun _ h => h) (C.envB (.cons (FnE_mono (r_checked C) (by omega)) (.cons (FnE_mono (r_Ratio_2 C) (by omega)) .nil)) .nil)
    (C.B.envX (by decide +kernel) (by decide +kernel) fun p hp => by simp [cs_Ratio___mul__] at hp) chk_Ratio___mul__.2⟩
theorem o_Ratio___mul__ (C : Ctx tp P w K mg base) : MethSh P w K mg base 40 0 "__mul__" 1 [] m_Ratio___mul__ := by
  obtain ⟨fd, F, G⟩ := f_Ratio___mul__ C
  exact ⟨_, _, cin_Ratio C, He.meth_ok (C.glo (.meth "Ratio" "__mul__") (by simp [tp, fa])), RunSh.pos (ps := N_Ratio___mul__.take 2) G (F.bindsN fun _ _ _ _ _ _ us hl => match us, hl with | [_, _], _ => rfl)⟩
theorem f_Ratio___neg__ (C : Ctx tp P w K mg base) : ∃ fd, FunD K "__neg__" "Ratio.__neg__" (defArgs s_Ratio___neg__) (defBody s_Ratio___neg__) (defScope s_Ratio___neg__) [] [] (He.fAd K d_Ratio___neg__.at_) fd ∧ FnG P w K mg base (L2.CX P w) 31 (He.fAd K d_Ratio___neg__.at_) fd (N_Ratio___neg__.take 1) (bodySp mg g_Ratio___neg__ N_Ratio___neg__ 1 ir_Ratio___neg__) := by
  obtain ⟨fd, F⟩ := C.c.def_ (d := d_Ratio___neg__) (by simp [tp, fn])
  exact ⟨fd, F, def_ok (lv := 21) 60 F chk_Ratio___neg__.1 (C.ok0 ⟨rfl, rfl, rfl, rfl, rfl, rfl, rfl⟩ fun _ h => h) (C.envB (.cons (FnE_mono (r_Ratio_2 C) (by omega)) .nil) .nil)
    (C.B.envX (by decide +kernel) (by decide +kernel) fun p hp => by simp [cs_Ratio___neg__] at hp) chk_Ratio___neg__.2⟩
theorem o_Ratio___neg__ (C : Ctx tp P w K mg base) : MethSh P w K mg base 31 0 "__neg__" 0 [] m_Ratio___neg__ := by
  obtain ⟨fd, F, G⟩ := f_Ratio___neg__ C
  exact ⟨_, _, cin_Ratio C, He.meth_ok (C.glo (.meth "Ratio" "__neg__") (by simp [tp, fa])), RunSh.pos (ps := N_Ratio___neg__.take 1) G (F.bindsN fun _ _ _ _ _ _ us hl => match us, hl with | [_], _ => rfl)⟩
theorem f_Ratio___eq__ (C : Ctx tp P w K mg base) : ∃ fd, FunD K "__eq__" "Ratio.__eq__" (defArgs s_Ratio___eq__) (defBody s_Ratio___eq__) (defScope s_Ratio___eq__) [] [] (He.fAd K d_Ratio___eq__.at_) fd ∧ FnG P w K mg base (L2.CX P w) 30 (He.fAd K d_Ratio___eq__.at_) fd (N_Ratio___eq__.take 2) (bodySp mg g_Ratio___eq__ N_Ratio___eq__ 2 ir_Ratio___eq__) := by
  obtain ⟨fd, F⟩ := C.c.def_ (d := d_Ratio___eq__) (by simp [tp, fn])
  exact ⟨fd, F, def_ok (lv := 20) 60 F chk_Ratio___eq__.1 (C.ok0 ⟨rfl, rfl, rfl, rfl, rfl, rfl, rfl⟩ fun _ h => h) (C.envB (.cons (FnE_mono (r_parts C) (by omega)) .nil) .nil)
    (C.B.envX (by decide +kernel) (by decide +kernel) fun p hp => by simp [cs_Ratio___eq__] at hp) chk_Ratio___eq__.2⟩
theorem o_Ratio___eq__ (C : Ctx tp P w K mg base) : MethSh P w K mg base 30 0 "__eq__" 1 [] m_Ratio___eq__ := by
  obtain ⟨fd, F, G⟩ := f_Ratio___eq__ C
  exact ⟨_, _, cin_Ratio C, He.meth_ok (C.glo (.meth "Ratio" "__eq__") (by simp [tp, fa])), RunSh.pos (ps := N_Ratio___eq__.take 2) G (F.bindsN fun _ _ _ _ _ _ us hl => match us, hl with | [_, _], _ => rfl)⟩
theorem f_Ratio___lt__ (C : Ctx tp P w K mg base) : ∃ fd, FunD K "__lt__" "Ratio.__lt__" (defArgs s_Ratio___lt__) (defBody s_Ratio___lt__) (defScope s_Ratio___lt__) [] [] (He.fAd K d_Ratio___lt__.at_) fd ∧ FnG P w K mg base (L2.CX P w) 40 (He.fAd K d_Ratio___lt__.at_) fd (N_Ratio___lt__.take 2) (bodySp mg g_Ratio___lt__ N_Ratio___lt__ 2 ir_Ratio___lt__) := by
  obtain ⟨fd, F⟩ := C.c.def_ (d := d_Ratio___lt__) (by simp [tp, fn])
  exact ⟨fd, F, def_ok (lv := 30) 60 F chk_Ratio___lt__.1 (C.ok0 ⟨rfl, rfl, rfl, rfl, rfl, rfl, rfl⟩ fun _ h => h) (C.envB (.cons (FnE_mono (r_checked C) (by omega)) .nil) .nil)
    (C.B.envX (by decide +kernel) (by decide +kernel) fun p hp => by simp [cs_Ratio___lt__] at hp) chk_Ratio___lt__.2⟩
theorem o_Ratio___lt__ (C : Ctx tp P w K mg base) : MethSh P w K mg base 40 0 "__lt__" 1 [] m_Ratio___lt__ := by
  obtain ⟨fd, F, G⟩ := f_Ratio___lt__ C
  exact ⟨_, _, cin_Ratio C, He.meth_ok (C.glo (.meth "Ratio" "__lt__") (by simp [tp, fa])), RunSh.pos (ps := N_Ratio___lt__.take 2) G (F.bindsN fun _ _ _ _ _ _ us hl => match us, hl with | [_, _], _ => rfl)⟩
theorem f_Ratio___le__ (C : Ctx tp P w K mg base) : ∃ fd, FunD K "__le__" "Ratio.__le__" (defArgs s_Ratio___le__) (defBody s_Ratio___le__) (defScope s_Ratio___le__) [] [] (He.fAd K d_Ratio___le__.at_) fd ∧ FnG P w K mg base (L2.CX P w) 40 (He.fAd K d_Ratio___le__.at_) fd (N_Ratio___le__.take 2) (bodySp mg g_Ratio___le__ N_Ratio___le__ 2 ir_Ratio___le__) := by
  obtain ⟨fd, F⟩ := C.c.def_ (d := d_Ratio___le__) (by simp [tp, fn])
  exact ⟨fd, F, def_ok (lv := 30) 60 F chk_Ratio___le__.1 (C.ok0 ⟨rfl, rfl, rfl, rfl, rfl, rfl, rfl⟩ fun _ h => h) (C.envB (.cons (FnE_mono (r_checked C) (by omega)) .nil) .nil)
    (C.B.envX (by decide +kernel) (by decide +kernel) fun p hp => by simp [cs_Ratio___le__] at hp) chk_Ratio___le__.2⟩
theorem o_Ratio___le__ (C : Ctx tp P w K mg base) : MethSh P w K mg base 40 0 "__le__" 1 [] m_Ratio___le__ := by
  obtain ⟨fd, F, G⟩ := f_Ratio___le__ C
  exact ⟨_, _, cin_Ratio C, He.meth_ok (C.glo (.meth "Ratio" "__le__") (by simp [tp, fa])), RunSh.pos (ps := N_Ratio___le__.take 2) G (F.bindsN fun _ _ _ _ _ _ us hl => match us, hl with | [_, _], _ => rfl)⟩
end
end K56

namespace K56
open PySem L2 DI
open PyProof.Rows hiding St
set_option maxHeartbeats 1000000
theorem eqL_m {eq : D → D → MS → Res Bool} (h : ∀ x y m b m', eq x y m = .ok b m' → m' = m) : ∀ {xs ys : List D} {m m' : MS} {b : Bool}, eqL eq xs ys m = .ok b m' → m' = m
  | [], [], m, m', b, q => by simp only [eqL] at q; cases q; rfl
  | [], _ :: _, m, m', b, q => by simp only [eqL] at q; cases q; rfl
  | _ :: _, [], m, m', b, q => by simp only [eqL] at q; cases q; rfl
  | x :: xs, y :: ys, m, m', b, q => by
    simp only [eqL] at q
    cases e : eq x y m with
    | ok c m1 =>
      rw [e] at q
      have := h _ _ _ _ _ e
      subst this
      simp only [Res.bind] at q
      cases c with
      | true => exact eqL_m h q
      | false => simp only [Bool.false_eq_true, if_false] at q; cases q; rfl
    | exc _ _ => rw [e] at q; cases q
    | stuck => rw [e] at q; cases q
theorem eqD_m {g : G} (hg : g.eq = []) : ∀ (n : Nat) (x y : D) (m : MS) (b : Bool) (m' : MS), eqD g n x y m = .ok b m' → m' = m
  | 0, x, y, m, b, m', h => by simp [eqD] at h
  | n + 1, x, y, m, b, m', h => by
    unfold eqD at h
    split at h
    · cases h; rfl
    · split at h
      · split at h
        · exact eqL_m (eqD_m hg n) h
        · cases h
      · split at h
        · exact eqL_m (eqD_m hg n) h
        · cases h; rfl
      · cases h
      · rw [hg] at h
        simp at h
      · cases h
theorem eqD_self {g : G} (hg : g.eq = []) : ∀ (n : Nat) (d : D) (m m' : MS) (b : Bool), eqD g n d d m = .ok b m' → b = true ∧ m' = m
  | 0, d, m, m', b, h => by simp [eqD] at h
  | n + 1, d, m, m', b, h => by
    unfold eqD at h
    split at h
    · rename_i p q e1 e2
      rw [e1] at e2
      cases e2
      cases h
      exact ⟨SeqAt.eqv_refl _ (toP_ok _ e1), rfl⟩
    · cases d with
      | tup xs =>
        simp only [if_true] at h
        exact eqL_refl (fun x _ => eqD_self hg n x) h
      | lst xs =>
        simp only [if_true] at h
        exact eqL_refl (fun x _ => eqD_self hg n x) h
      | obj c fs =>
        rw [hg] at h
        simp at h
      | _ => simp at h
theorem is_integer_any (c : Nat) (fs : List (Str × D)) (m : MS) : m_is_integer [.obj c fs] m = .ok (.bl false) m := by
  simp [m_is_integer, evF, ir_is_integer, evSs, evS, evE, evEs, tyN, inner, kdIs, g0]
/-- parts of an object of the class Ratio -/
theorem parts_obj (fs : List (Str × D)) (m : MS) : m_parts [.obj 0 fs] m = (match fs.lookup (Str.ofString "top"), fs.lookup (Str.ofString "bottom") with
    | some t, some b => .ok (.tup [t, b]) m
    | _, _ => .stuck) := by
  simp [m_parts, evF, ir_parts, evSs, evS, evE, evEs, g_parts, callD, splD, liftO, is_integer_any, maxLen, tyN, inner, kdIs, attrD, flds]
  cases fs.lookup (Str.ofString "top") with
  | none => simp
  | some t =>
    cases fs.lookup (Str.ofString "bottom") with
    | none => simp
    | some b => simp
theorem eq_self (fs : List (Str × D)) (m : MS) (r : Res D) (h : m_Ratio___eq__ [.obj 0 fs, .obj 0 fs] m = r) (hr : r ≠ .stuck) : r = .ok (.bl true) m := by
  subst h
  cases h1 : fs.lookup (Str.ofString "top") with
  | none => exact absurd (by simp [m_Ratio___eq__, evF, ir_Ratio___eq__, evSs, evS, evE, evEs, g_Ratio___eq__, callD, splD, liftO, maxLen, attrD, flds, parts_obj, h1]) hr
  | some t =>
    cases h2 : fs.lookup (Str.ofString "bottom") with
    | none => exact absurd (by simp [m_Ratio___eq__, evF, ir_Ratio___eq__, evSs, evS, evE, evEs, g_Ratio___eq__, callD, splD, liftO, maxLen, attrD, flds, parts_obj, h1, h2]) hr
    | some b =>
      have e : m_Ratio___eq__ [.obj 0 fs, .obj 0 fs] m = (match eqD g_Ratio___eq__ eqFuel (.tup [t, b]) (.tup [t, b]) m with | .ok b m => .ok (.bl b) m | _ => .stuck) := by
        have hfn : g_Ratio___eq__.fn = [m_parts] := rfl
        have hfld : g_Ratio___eq__.fld = flds := rfl
        cases hq : eqD g_Ratio___eq__ eqFuel (.tup [t, b]) (.tup [t, b]) m <;>
          simp [m_Ratio___eq__, evF, ir_Ratio___eq__, evSs, evS, evE, evEs, callD, splD, liftO, maxLen, attrD, parts_obj, h1, h2, cmpD, hfn, hfld, flds, hq]
      rw [e] at hr ⊢
      cases hq : eqD g_Ratio___eq__ eqFuel (.tup [t, b]) (.tup [t, b]) m with
      | ok c m1 =>
        obtain ⟨z1, z2⟩ := eqD_self (g := g_Ratio___eq__) rfl _ _ _ _ _ hq
        rw [z1, z2]
      | exc _ _ => rw [hq] at hr; exact absurd rfl hr
      | stuck => rw [hq] at hr; exact absurd rfl hr
theorem is_integer_all (y : D) (m : MS) : m_is_integer [y] m = (match tyN m y with | some k => .ok (.bl (kdIs k .int && !kdIs k .bool)) m | none => .stuck) := by
  cases hk : tyN m y with
  | none => simp [m_is_integer, evF, ir_is_integer, evSs, evS, evE, evEs, g0, hk]
  | some k => cases k <;> simp [m_is_integer, evF, ir_is_integer, evSs, evS, evE, evEs, g0, hk, kdIs]
theorem parts_m (y r : D) (m m' : MS) (h : m_parts [y] m = .ok r m') : m' = m := by
  have hfn : g_parts.fn = [m_is_integer] := rfl
  revert h
  cases hk : tyN m y with
  | none => simp [m_parts, evF, ir_parts, evSs, evS, evE, evEs, hfn, callD, splD, liftO, is_integer_all, maxLen, hk]
  | some k =>
    cases hb : (kdIs k .int && !kdIs k .bool) with
    | true =>
      simp [m_parts, evF, ir_parts, evSs, evS, evE, evEs, hfn, callD, splD, liftO, is_integer_all, maxLen, hk, hb]
      intro _ h; exact h.symm
    | false =>
      cases hc : kdIs k (.cls 0) with
      | false =>
        simp [m_parts, evF, ir_parts, evSs, evS, evE, evEs, hfn, callD, splD, liftO, is_integer_all, maxLen, hk, hb, hc]
        intro _ h; exact h.symm
      | true =>
        cases h1 : attrD g_parts y "top" m with
        | none => simp [m_parts, evF, ir_parts, evSs, evS, evE, evEs, hfn, callD, splD, liftO, is_integer_all, maxLen, hk, hb, hc, h1]
        | some t =>
          cases h2 : attrD g_parts y "bottom" m with
          | none => simp [m_parts, evF, ir_parts, evSs, evS, evE, evEs, hfn, callD, splD, liftO, is_integer_all, maxLen, hk, hb, hc, h1, h2]
          | some b =>
            simp [m_parts, evF, ir_parts, evSs, evS, evE, evEs, hfn, callD, splD, liftO, is_integer_all, maxLen, hk, hb, hc, h1, h2]
            intro _ h; exact h.symm
theorem eq_m (x y r : D) (m m' : MS) (h : m_Ratio___eq__ [x, y] m = .ok r m') : m' = m := by
  have hfn : g_Ratio___eq__.fn = [m_parts] := rfl
  revert h
  cases hp : m_parts [y] m with
  | exc e m1 => simp [m_Ratio___eq__, evF, ir_Ratio___eq__, evSs, evS, evE, evEs, callD, splD, liftO, hfn, hp]
  | stuck => simp [m_Ratio___eq__, evF, ir_Ratio___eq__, evSs, evS, evE, evEs, callD, splD, liftO, hfn, hp]
  | ok d m1 =>
    have e1 := parts_m y d m m1 hp
    subst e1
    cases h1 : attrD g_Ratio___eq__ x "top" m1 with
    | none => simp [m_Ratio___eq__, evF, ir_Ratio___eq__, evSs, evS, evE, evEs, callD, splD, liftO, hfn, hp, h1]
    | some t =>
      cases h2 : attrD g_Ratio___eq__ x "bottom" m1 with
      | none => simp [m_Ratio___eq__, evF, ir_Ratio___eq__, evSs, evS, evE, evEs, callD, splD, liftO, hfn, hp, h1, h2]
      | some b =>
        cases hq : eqD g_Ratio___eq__ eqFuel d (.tup [t, b]) m1 with
        | exc e m2 => simp [m_Ratio___eq__, evF, ir_Ratio___eq__, evSs, evS, evE, evEs, callD, splD, liftO, maxLen, cmpD, hfn, hp, h1, h2, hq]
        | stuck => simp [m_Ratio___eq__, evF, ir_Ratio___eq__, evSs, evS, evE, evEs, callD, splD, liftO, maxLen, cmpD, hfn, hp, h1, h2, hq]
        | ok c m2 =>
          have e2 := eqD_m (g := g_Ratio___eq__) rfl _ _ _ _ _ _ hq
          subst e2
          simp [m_Ratio___eq__, evF, ir_Ratio___eq__, evSs, evS, evE, evEs, callD, splD, liftO, maxLen, cmpD, hfn, hp, h1, h2, hq]
          intro _ h; exact h.symm
end K56


namespace K56
open PySem L2 DI
open PyProof.Rows hiding St
section
variable {P : Program} {w : World} {K : PySem.W.Frag} {mg : Str → Option Value} {base : Heap}
theorem ok0_ops (C : Ctx tp P w K mg base) {lv : Nat} (hl : 40 ≤ lv) (fs : List DI.Sem) (me : List (List (Nat × DI.Sem))) : Ok0 (withOps fs me) lv P w K mg base := by
  have adr : ∀ X, mg (clsName 0) = some (.ref X) → X = He.ga K "Ratio" := fun X hX => (C.B.cls 0 X hX).2
  refine C.B.ok0 (fun _ h => h) (fun op c f h => ?_) (fun c f h => ?_) (fun c f h => ?_) (fun op c f h => ?_)
  · cases op with
    | add =>
      obtain ⟨rfl, rfl⟩ := lk1 h
      exact ⟨MethSh_mono (o_Ratio___add__ C) (by omega), fun X hX => by rw [adr X hX]; exact C.rop (p := ("Ratio", "__radd__")) (by decide +kernel)⟩
    | sub =>
      obtain ⟨rfl, rfl⟩ := lk1 h
      exact ⟨MethSh_mono (o_Ratio___sub__ C) (by omega), fun X hX => by rw [adr X hX]; exact C.rop (p := ("Ratio", "__rsub__")) (by decide +kernel)⟩
    | mul =>
      obtain ⟨rfl, rfl⟩ := lk1 h
      exact ⟨MethSh_mono (o_Ratio___mul__ C) (by omega), fun X hX => by rw [adr X hX]; exact C.rop (p := ("Ratio", "__rmul__")) (by decide +kernel)⟩
    | _ => cases h
  ·
    obtain ⟨rfl, rfl⟩ := lk1 h
    exact MethSh_mono (o_Ratio___neg__ C) (by omega)
  · obtain ⟨rfl, rfl⟩ := lk1 h
    exact ⟨MethSh_mono (o_Ratio___eq__ C) (by omega), fun X hX => by rw [adr X hX]; exact C.ne (c := "Ratio") (by decide +kernel), fun fs m r h hr => eq_self fs m r h hr, fun x y m r m' h => eq_m x y r m m' h⟩
  · cases op with
    | lt =>
      obtain ⟨rfl, rfl⟩ := lk1 h
      exact MethSh_mono (o_Ratio___lt__ C) (by omega)
    | le =>
      obtain ⟨rfl, rfl⟩ := lk1 h
      exact MethSh_mono (o_Ratio___le__ C) (by omega)
    | _ => cases h
theorem f__law_cell (C : Ctx tp P w K mg base) : ∃ fd, FunD K "_law_cell" "_law_cell" (defArgs s__law_cell) (defBody s__law_cell) (defScope s__law_cell) [] [] (He.fAd K d__law_cell.at_) fd ∧ FnG P w K mg base (L2.CX P w) 50 (He.fAd K d__law_cell.at_) fd (N__law_cell.take 2) (bodySp mg g__law_cell N__law_cell 2 ir__law_cell) := by
  obtain ⟨fd, F⟩ := C.c.def_ (d := d__law_cell) (by simp [tp, fn])
  exact ⟨fd, F, def_ok (lv := 40) 60 F chk__law_cell.1 (ok0_ops C (by omega) _ _) (C.envB .nil .nil)
    (C.B.envX (by decide +kernel) (by decide +kernel) fun p hp => by simp [cs__law_cell] at hp) chk__law_cell.2⟩
theorem r__law_cell (C : Ctx tp P w K mg base) : FnE P w K mg base 50 ("_law_cell", 2, []) m__law_cell := by
  obtain ⟨fd, F, G⟩ := f__law_cell C
  exact ⟨_, C.mg _ (by simp [tp, fa]), F.kp, RunSh.pos (ps := N__law_cell.take 2) G (F.bindsN fun _ _ _ _ _ _ us hl => match us, hl with | [_, _], _ => rfl)⟩
theorem f__law_box (C : Ctx tp P w K mg base) : ∃ fd, FunD K "_law_box" "_law_box" (defArgs s__law_box) (defBody s__law_box) (defScope s__law_box) [] [] (He.fAd K d__law_box.at_) fd ∧ FnG P w K mg base (L2.CX P w) 60 (He.fAd K d__law_box.at_) fd (N__law_box.take 2) (bodySp mg g__law_box N__law_box 2 ir__law_box) := by
  obtain ⟨fd, F⟩ := C.c.def_ (d := d__law_box) (by simp [tp, fn])
  exact ⟨fd, F, def_ok (lv := 50) 60 F chk__law_box.1 (ok0_ops C (by omega) _ _) (C.envB (.cons (FnE_mono (r__law_cell C) (by omega)) .nil) .nil)
    (C.B.envX (by decide +kernel) (by decide +kernel) fun p hp => by simp [cs__law_box] at hp) chk__law_box.2⟩
theorem r__law_box (C : Ctx tp P w K mg base) : FnE P w K mg base 60 ("_law_box", 2, []) m__law_box := by
  obtain ⟨fd, F, G⟩ := f__law_box C
  exact ⟨_, C.mg _ (by simp [tp, fa]), F.kp, RunSh.pos (ps := N__law_box.take 2) G (F.bindsN fun _ _ _ _ _ _ us hl => match us, hl with | [_, _], _ => rfl)⟩
theorem f__law_frac (C : Ctx tp P w K mg base) : ∃ fd, FunD K "_law_frac" "_law_frac" (defArgs s__law_frac) (defBody s__law_frac) (defScope s__law_frac) [] [] (He.fAd K d__law_frac.at_) fd ∧ FnG P w K mg base (L2.CX P w) 50 (He.fAd K d__law_frac.at_) fd (N__law_frac.take 2) (bodySp mg g__law_frac N__law_frac 2 ir__law_frac) := by
  obtain ⟨fd, F⟩ := C.c.def_ (d := d__law_frac) (by simp [tp, fn])
  exact ⟨fd, F, def_ok (lv := 40) 60 F chk__law_frac.1 (ok0_ops C (by omega) _ _) (C.envB .nil .nil)
    (C.B.envX (by decide +kernel) (by decide +kernel) fun p hp => by simp [cs__law_frac] at hp) chk__law_frac.2⟩
theorem r__law_frac (C : Ctx tp P w K mg base) : FnE P w K mg base 50 ("_law_frac", 2, []) m__law_frac := by
  obtain ⟨fd, F, G⟩ := f__law_frac C
  exact ⟨_, C.mg _ (by simp [tp, fa]), F.kp, RunSh.pos (ps := N__law_frac.take 2) G (F.bindsN fun _ _ _ _ _ _ us hl => match us, hl with | [_, _], _ => rfl)⟩
theorem f__law_take (C : Ctx tp P w K mg base) : ∃ fd, FunD K "_law_take" "_law_take" (defArgs s__law_take) (defBody s__law_take) (defScope s__law_take) [] [] (He.fAd K d__law_take.at_) fd ∧ FnG P w K mg base (L2.CX P w) 50 (He.fAd K d__law_take.at_) fd (N__law_take.take 2) (bodySp mg g__law_take N__law_take 2 ir__law_take) := by
  obtain ⟨fd, F⟩ := C.c.def_ (d := d__law_take) (by simp [tp, fn])
  exact ⟨fd, F, def_ok (lv := 40) 60 F chk__law_take.1 (ok0_ops C (by omega) _ _) (C.envB .nil .nil)
    (C.B.envX (by decide +kernel) (by decide +kernel) fun p hp => by simp [cs__law_take] at hp) chk__law_take.2⟩
theorem r__law_take (C : Ctx tp P w K mg base) : FnE P w K mg base 50 ("_law_take", 2, []) m__law_take := by
  obtain ⟨fd, F, G⟩ := f__law_take C
  exact ⟨_, C.mg _ (by simp [tp, fa]), F.kp, RunSh.pos (ps := N__law_take.take 2) G (F.bindsN fun _ _ _ _ _ _ us hl => match us, hl with | [_, _], _ => rfl)⟩
theorem f__law_plus (C : Ctx tp P w K mg base) : ∃ fd, FunD K "_law_plus" "_law_plus" (defArgs s__law_plus) (defBody s__law_plus) (defScope s__law_plus) [] [] (He.fAd K d__law_plus.at_) fd ∧ FnG P w K mg base (L2.CX P w) 60 (He.fAd K d__law_plus.at_) fd (N__law_plus.take 2) (bodySp mg g__law_plus N__law_plus 2 ir__law_plus) := by
  obtain ⟨fd, F⟩ := C.c.def_ (d := d__law_plus) (by simp [tp, fn])
  exact ⟨fd, F, def_ok (lv := 50) 60 F chk__law_plus.1 (ok0_ops C (by omega) _ _) (C.envB (.cons (FnE_mono (r__law_frac C) (by omega)) .nil) .nil)
    (C.B.envX (by decide +kernel) (by decide +kernel) fun p hp => by simp [cs__law_plus] at hp) chk__law_plus.2⟩
theorem r__law_plus (C : Ctx tp P w K mg base) : FnE P w K mg base 60 ("_law_plus", 2, []) m__law_plus := by
  obtain ⟨fd, F, G⟩ := f__law_plus C
  exact ⟨_, C.mg _ (by simp [tp, fa]), F.kp, RunSh.pos (ps := N__law_plus.take 2) G (F.bindsN fun _ _ _ _ _ _ us hl => match us, hl with | [_, _], _ => rfl)⟩
theorem f__law_less (C : Ctx tp P w K mg base) : ∃ fd, FunD K "_law_less" "_law_less" (defArgs s__law_less) (defBody s__law_less) (defScope s__law_less) [] [] (He.fAd K d__law_less.at_) fd ∧ FnG P w K mg base (L2.CX P w) 50 (He.fAd K d__law_less.at_) fd (N__law_less.take 2) (bodySp mg g__law_less N__law_less 2 ir__law_less) := by
  obtain ⟨fd, F⟩ := C.c.def_ (d := d__law_less) (by simp [tp, fn])
  exact ⟨fd, F, def_ok (lv := 40) 60 F chk__law_less.1 (ok0_ops C (by omega) _ _) (C.envB .nil .nil)
    (C.B.envX (by decide +kernel) (by decide +kernel) fun p hp => by simp [cs__law_less] at hp) chk__law_less.2⟩
theorem r__law_less (C : Ctx tp P w K mg base) : FnE P w K mg base 50 ("_law_less", 2, []) m__law_less := by
  obtain ⟨fd, F, G⟩ := f__law_less C
  exact ⟨_, C.mg _ (by simp [tp, fa]), F.kp, RunSh.pos (ps := N__law_less.take 2) G (F.bindsN fun _ _ _ _ _ _ us hl => match us, hl with | [_, _], _ => rfl)⟩
theorem f__law_steps (C : Ctx tp P w K mg base) : ∃ fd, FunD K "_law_steps" "_law_steps" (defArgs s__law_steps) (defBody s__law_steps) (defScope s__law_steps) [] [] (He.fAd K d__law_steps.at_) fd ∧ FnG P w K mg base (L2.CX P w) 70 (He.fAd K d__law_steps.at_) fd (N__law_steps.take 2) (bodySp mg g__law_steps N__law_steps 2 ir__law_steps) := by
  obtain ⟨fd, F⟩ := C.c.def_ (d := d__law_steps) (by simp [tp, fn])
  exact ⟨fd, F, def_ok (lv := 60) 60 F chk__law_steps.1 (ok0_ops C (by omega) _ _) (C.envB (.cons (FnE_mono (r__law_frac C) (by omega)) (.cons (FnE_mono (r__law_take C) (by omega)) (.cons (FnE_mono (r__law_plus C) (by omega)) (.cons (FnE_mono (r__law_less C) (by omega)) .nil)))) .nil)
    (C.B.envX (by decide +kernel) (by decide +kernel) fun p hp => by simp [cs__law_steps] at hp) chk__law_steps.2⟩
theorem r__law_steps (C : Ctx tp P w K mg base) : FnE P w K mg base 70 ("_law_steps", 2, []) m__law_steps := by
  obtain ⟨fd, F, G⟩ := f__law_steps C
  exact ⟨_, C.mg _ (by simp [tp, fa]), F.kp, RunSh.pos (ps := N__law_steps.take 2) G (F.bindsN fun _ _ _ _ _ _ us hl => match us, hl with | [_, _], _ => rfl)⟩
theorem f_is_amount (C : Ctx tp P w K mg base) : ∃ fd, FunD K "is_amount" "is_amount" (defArgs s_is_amount) (defBody s_is_amount) (defScope s_is_amount) [] [] (He.fAd K d_is_amount.at_) fd ∧ FnG P w K mg base (L2.CX P w) 50 (He.fAd K d_is_amount.at_) fd (N_is_amount.take 1) (bodySp mg g_is_amount N_is_amount 1 ir_is_amount) := by
  obtain ⟨fd, F⟩ := C.c.def_ (d := d_is_amount) (by simp [tp, fn])
  exact ⟨fd, F, def_ok (lv := 40) 60 F chk_is_amount.1 (ok0_ops C (by omega) _ _) (C.envB (.cons (FnE_mono (r_parts C) (by omega)) .nil) .nil)
    (C.B.envX (by decide +kernel) (by decide +kernel) fun p hp => by simp [cs_is_amount] at hp) chk_is_amount.2⟩
theorem r_is_amount (C : Ctx tp P w K mg base) : FnE P w K mg base 50 ("is_amount", 1, []) m_is_amount := by
  obtain ⟨fd, F, G⟩ := f_is_amount C
  exact ⟨_, C.mg _ (by simp [tp, fa]), F.kp, RunSh.pos (ps := N_is_amount.take 1) G (F.bindsN fun _ _ _ _ _ _ us hl => match us, hl with | [_], _ => rfl)⟩
theorem f_as_ratio (C : Ctx tp P w K mg base) : ∃ fd, FunD K "as_ratio" "as_ratio" (defArgs s_as_ratio) (defBody s_as_ratio) (defScope s_as_ratio) [] [] (He.fAd K d_as_ratio.at_) fd ∧ FnG P w K mg base (L2.CX P w) 50 (He.fAd K d_as_ratio.at_) fd (N_as_ratio.take 1) (bodySp mg g_as_ratio N_as_ratio 1 ir_as_ratio) := by
  obtain ⟨fd, F⟩ := C.c.def_ (d := d_as_ratio) (by simp [tp, fn])
  exact ⟨fd, F, def_ok (lv := 40) 60 F chk_as_ratio.1 (ok0_ops C (by omega) _ _) (C.envB (.cons (FnE_mono (r_checked C) (by omega)) (.cons (FnE_mono (r_Ratio_2 C) (by omega)) .nil)) .nil)
    (C.B.envX (by decide +kernel) (by decide +kernel) fun p hp => by simp [cs_as_ratio] at hp) chk_as_ratio.2⟩
theorem r_as_ratio (C : Ctx tp P w K mg base) : FnE P w K mg base 50 ("as_ratio", 1, []) m_as_ratio := by
  obtain ⟨fd, F, G⟩ := f_as_ratio C
  exact ⟨_, C.mg _ (by simp [tp, fa]), F.kp, RunSh.pos (ps := N_as_ratio.take 1) G (F.bindsN fun _ _ _ _ _ _ us hl => match us, hl with | [_], _ => rfl)⟩
theorem f_is_use (C : Ctx tp P w K mg base) : ∃ fd, FunD K "is_use" "is_use" (defArgs s_is_use) (defBody s_is_use) (defScope s_is_use) [] [] (He.fAd K d_is_use.at_) fd ∧ FnG P w K mg base (L2.CX P w) 60 (He.fAd K d_is_use.at_) fd (N_is_use.take 1) (bodySp mg g_is_use N_is_use 1 ir_is_use) := by
  obtain ⟨fd, F⟩ := C.c.def_ (d := d_is_use) (by simp [tp, fn])
  exact ⟨fd, F, def_ok (lv := 50) 60 F chk_is_use.1 (ok0_ops C (by omega) _ _) (C.envB (.cons (FnE_mono (r_as_ratio C) (by omega)) (.cons (FnE_mono (r_is_amount C) (by omega)) .nil)) .nil)
    (C.B.envX (by decide +kernel) (by decide +kernel) fun p hp => by simp [cs_is_use] at hp) chk_is_use.2⟩
theorem r_is_use (C : Ctx tp P w K mg base) : FnE P w K mg base 60 ("is_use", 1, []) m_is_use := by
  obtain ⟨fd, F, G⟩ := f_is_use C
  exact ⟨_, C.mg _ (by simp [tp, fa]), F.kp, RunSh.pos (ps := N_is_use.take 1) G (F.bindsN fun _ _ _ _ _ _ us hl => match us, hl with | [_], _ => rfl)⟩
theorem f_is_step (C : Ctx tp P w K mg base) : ∃ fd, FunD K "is_step" "is_step" (defArgs s_is_step) (defBody s_is_step) (defScope s_is_step) [] [] (He.fAd K d_is_step.at_) fd ∧ FnG P w K mg base (L2.CX P w) 70 (He.fAd K d_is_step.at_) fd (N_is_step.take 1) (bodySp mg g_is_step N_is_step 1 ir_is_step) := by
  obtain ⟨fd, F⟩ := C.c.def_ (d := d_is_step) (by simp [tp, fn])
  exact ⟨fd, F, def_ok (lv := 60) 60 F chk_is_step.1 (ok0_ops C (by omega) _ _) (C.envB (.cons (FnE_mono (r_is_amount C) (by omega)) (.cons (FnE_mono (r_is_use C) (by omega)) .nil)) .nil)
    (C.B.envX (by decide +kernel) (by decide +kernel) fun p hp => by simp [cs_is_step] at hp) chk_is_step.2⟩
theorem r_is_step (C : Ctx tp P w K mg base) : FnE P w K mg base 70 ("is_step", 1, []) m_is_step := by
  obtain ⟨fd, F, G⟩ := f_is_step C
  exact ⟨_, C.mg _ (by simp [tp, fa]), F.kp, RunSh.pos (ps := N_is_step.take 1) G (F.bindsN fun _ _ _ _ _ _ us hl => match us, hl with | [_], _ => rfl)⟩
theorem f_are_steps (C : Ctx tp P w K mg base) : ∃ fd, FunD K "are_steps" "are_steps" (defArgs s_are_steps) (defBody s_are_steps) (defScope s_are_steps) [] [] (He.fAd K d_are_steps.at_) fd ∧ FnG P w K mg base (L2.CX P w) 80 (He.fAd K d_are_steps.at_) fd (N_are_steps.take 1) (bodySp mg g_are_steps N_are_steps 1 ir_are_steps) := by
  obtain ⟨fd, F⟩ := C.c.def_ (d := d_are_steps) (by simp [tp, fn])
  exact ⟨fd, F, def_ok (lv := 70) 60 F chk_are_steps.1 (ok0_ops C (by omega) _ _) (C.envB (.cons (FnE_mono (r_is_step C) (by omega)) (.cons (FnE_mono (r_as_ratio C) (by omega)) .nil)) .nil)
    (C.B.envX (by decide +kernel) (by decide +kernel) fun p hp => by simp [cs_are_steps] at hp) chk_are_steps.2⟩
theorem r_are_steps (C : Ctx tp P w K mg base) : FnE P w K mg base 80 ("are_steps", 1, []) m_are_steps := by
  obtain ⟨fd, F, G⟩ := f_are_steps C
  exact ⟨_, C.mg _ (by simp [tp, fa]), F.kp, RunSh.pos (ps := N_are_steps.take 1) G (F.bindsN fun _ _ _ _ _ _ us hl => match us, hl with | [_], _ => rfl)⟩
theorem f_fewest_steps (C : Ctx tp P w K mg base) : ∃ fd, FunD K "fewest_steps" "fewest_steps" (defArgs s_fewest_steps) (defBody s_fewest_steps) (defScope s_fewest_steps) [] [] (He.fAd K d_fewest_steps.at_) fd ∧ FnG P w K mg base (L2.CX P w) 60 (He.fAd K d_fewest_steps.at_) fd (N_fewest_steps.take 1) (bodySp mg g_fewest_steps N_fewest_steps 1 ir_fewest_steps) := by
  obtain ⟨fd, F⟩ := C.c.def_ (d := d_fewest_steps) (by simp [tp, fn])
  exact ⟨fd, F, def_ok (lv := 50) 60 F chk_fewest_steps.1 (ok0_ops C (by omega) _ _) (C.envB (.cons (FnE_mono (r_as_ratio C) (by omega)) .nil) .nil)
    (C.B.envX (by decide +kernel) (by decide +kernel) fun p hp => by simp [cs_fewest_steps] at hp) chk_fewest_steps.2⟩
theorem r_fewest_steps (C : Ctx tp P w K mg base) : FnE P w K mg base 60 ("fewest_steps", 1, []) m_fewest_steps := by
  obtain ⟨fd, F, G⟩ := f_fewest_steps C
  exact ⟨_, C.mg _ (by simp [tp, fa]), F.kp, RunSh.pos (ps := N_fewest_steps.take 1) G (F.bindsN fun _ _ _ _ _ _ us hl => match us, hl with | [_], _ => rfl)⟩
theorem f_Rule___init__ (C : Ctx tp P w K mg base) : ∃ fd, FunD K "__init__" "Rule.__init__" (defArgs s_Rule___init__) (defBody s_Rule___init__) (defScope s_Rule___init__) [] [] (He.fAd K d_Rule___init__.at_) fd ∧ FnG P w K mg base (L2.CX P w) 90 (He.fAd K d_Rule___init__.at_) fd (N_Rule___init__.take 2) (bodySp mg g_Rule___init__ N_Rule___init__ 2 ir_Rule___init__) := by
  obtain ⟨fd, F⟩ := C.c.def_ (d := d_Rule___init__) (by simp [tp, fn])
  exact ⟨fd, F, def_ok (lv := 80) 60 F chk_Rule___init__.1 (ok0_ops C (by omega) _ _) (C.envB (.cons (FnE_mono (r_are_steps C) (by omega)) (.cons (FnE_mono (r_fewest_steps C) (by omega)) .nil)) .nil)
    (C.B.envX (by decide +kernel) (by decide +kernel) fun p hp => by
    simp only [cs_Rule___init__, List.mem_cons, List.not_mem_nil, or_false] at hp
    rcases hp with rfl
    · exact ⟨_, e_BadRule C _⟩) chk_Rule___init__.2⟩
theorem r_Rule_1 (C : Ctx tp P w K mg base) : FnE P w K mg base 91 ("Rule", 1, []) m_Rule1 := by
  obtain ⟨fd, F, G⟩ := f_Rule___init__ C
  have b := F.bindsN (ps := N_Rule___init__.take 2) fun _ _ _ _ _ _ us hl => match us, hl with | [_, _], _ => rfl
  refine ⟨_, cin_Rule C, (mk_Rule C).kp, ?_⟩
  exact RunSh.of_class (c := 1) (gD := id) (gW := fun vs _ => vs) (mk_Rule C) (cin_Rule C) G (KBn.pos b) (fun _ _ _ => rfl) fun γ vs zs ds _ hz r => rvs_pos hz r
theorem f__law_ratio (C : Ctx tp P w K mg base) : ∃ fd, FunD K "_law_ratio" "_law_ratio" (defArgs s__law_ratio) (defBody s__law_ratio) (defScope s__law_ratio) [] [] (He.fAd K d__law_ratio.at_) fd ∧ FnG P w K mg base (L2.CX P w) 50 (He.fAd K d__law_ratio.at_) fd (N__law_ratio.take 1) (bodySp mg g__law_ratio N__law_ratio 1 ir__law_ratio) := by
  obtain ⟨fd, F⟩ := C.c.def_ (d := d__law_ratio) (by simp [tp, fn])
  exact ⟨fd, F, def_ok (lv := 40) 60 F chk__law_ratio.1 (ok0_ops C (by omega) _ _) (C.envB (.cons (FnE_mono (r_Ratio_2 C) (by omega)) .nil) .nil)
    (C.B.envX (by decide +kernel) (by decide +kernel) fun p hp => by simp [cs__law_ratio] at hp) chk__law_ratio.2⟩
theorem r__law_ratio (C : Ctx tp P w K mg base) : FnE P w K mg base 50 ("_law_ratio", 1, []) m__law_ratio := by
  obtain ⟨fd, F, G⟩ := f__law_ratio C
  exact ⟨_, C.mg _ (by simp [tp, fa]), F.kp, RunSh.pos (ps := N__law_ratio.take 1) G (F.bindsN fun _ _ _ _ _ _ us hl => match us, hl with | [_], _ => rfl)⟩
theorem f__law_rule (C : Ctx tp P w K mg base) : ∃ fd, FunD K "_law_rule" "_law_rule" (defArgs s__law_rule) (defBody s__law_rule) (defScope s__law_rule) [] [] (He.fAd K d__law_rule.at_) fd ∧ FnG P w K mg base (L2.CX P w) 101 (He.fAd K d__law_rule.at_) fd (N__law_rule.take 1) (bodySp mg g__law_rule N__law_rule 1 ir__law_rule) := by
  obtain ⟨fd, F⟩ := C.c.def_ (d := d__law_rule) (by simp [tp, fn])
  exact ⟨fd, F, def_ok (lv := 91) 60 F chk__law_rule.1 (ok0_ops C (by omega) _ _) (C.envB (.cons (FnE_mono (r_Rule_1 C) (by omega)) (.cons (FnE_mono (r__law_ratio C) (by omega)) .nil)) .nil)
    (C.B.envX (by decide +kernel) (by decide +kernel) fun p hp => by simp [cs__law_rule] at hp) chk__law_rule.2⟩
theorem r__law_rule (C : Ctx tp P w K mg base) : FnE P w K mg base 101 ("_law_rule", 1, []) m__law_rule := by
  obtain ⟨fd, F, G⟩ := f__law_rule C
  exact ⟨_, C.mg _ (by simp [tp, fa]), F.kp, RunSh.pos (ps := N__law_rule.take 1) G (F.bindsN fun _ _ _ _ _ _ us hl => match us, hl with | [_], _ => rfl)⟩
theorem f__law_use (C : Ctx tp P w K mg base) : ∃ fd, FunD K "_law_use" "_law_use" (defArgs s__law_use) (defBody s__law_use) (defScope s__law_use) [] [] (He.fAd K d__law_use.at_) fd ∧ FnG P w K mg base (L2.CX P w) 60 (He.fAd K d__law_use.at_) fd (N__law_use.take 2) (bodySp mg g__law_use N__law_use 2 ir__law_use) := by
  obtain ⟨fd, F⟩ := C.c.def_ (d := d__law_use) (by simp [tp, fn])
  exact ⟨fd, F, def_ok (lv := 50) 60 F chk__law_use.1 (ok0_ops C (by omega) _ _) (C.envB (.cons (FnE_mono (r__law_take C) (by omega)) (.cons (FnE_mono (r__law_frac C) (by omega)) .nil)) .nil)
    (C.B.envX (by decide +kernel) (by decide +kernel) fun p hp => by simp [cs__law_use] at hp) chk__law_use.2⟩
theorem r__law_use (C : Ctx tp P w K mg base) : FnE P w K mg base 60 ("_law_use", 2, []) m__law_use := by
  obtain ⟨fd, F, G⟩ := f__law_use C
  exact ⟨_, C.mg _ (by simp [tp, fa]), F.kp, RunSh.pos (ps := N__law_use.take 2) G (F.bindsN fun _ _ _ _ _ _ us hl => match us, hl with | [_, _], _ => rfl)⟩
theorem f_check_use (C : Ctx tp P w K mg base) : ∃ fd, FunD K "check_use" "check_use" (defArgs s_check_use) (defBody s_check_use) (defScope s_check_use) [] [] (He.fAd K d_check_use.at_) fd ∧ FnG P w K mg base (L2.CX P w) 70 (He.fAd K d_check_use.at_) fd (N_check_use.take 1) (bodySp mg g_check_use N_check_use 1 ir_check_use) := by
  obtain ⟨fd, F⟩ := C.c.def_ (d := d_check_use) (by simp [tp, fn])
  exact ⟨fd, F, def_ok (lv := 60) 60 F chk_check_use.1 (ok0_ops C (by omega) _ _) (C.envB (.cons (FnE_mono (r_is_use C) (by omega)) .nil) .nil)
    (C.B.envX (by decide +kernel) (by decide +kernel) fun p hp => by
    simp only [cs_check_use, List.mem_cons, List.not_mem_nil, or_false] at hp
    rcases hp with rfl
    · exact ⟨_, e_BadUse C _⟩) chk_check_use.2⟩
theorem r_check_use (C : Ctx tp P w K mg base) : FnE P w K mg base 70 ("check_use", 1, []) m_check_use := by
  obtain ⟨fd, F, G⟩ := f_check_use C
  exact ⟨_, C.mg _ (by simp [tp, fa]), F.kp, RunSh.pos (ps := N_check_use.take 1) G (F.bindsN fun _ _ _ _ _ _ us hl => match us, hl with | [_], _ => rfl)⟩
theorem f_Rule_rate (C : Ctx tp P w K mg base) : ∃ fd, FunD K "rate" "Rule.rate" (defArgs s_Rule_rate) (defBody s_Rule_rate) (defScope s_Rule_rate) [] [] (He.fAd K d_Rule_rate.at_) fd ∧ FnG P w K mg base (L2.CX P w) 80 (He.fAd K d_Rule_rate.at_) fd (N_Rule_rate.take 2) (bodySp mg g_Rule_rate N_Rule_rate 2 ir_Rule_rate) := by
  obtain ⟨fd, F⟩ := C.c.def_ (d := d_Rule_rate) (by simp [tp, fn])
  exact ⟨fd, F, def_ok (lv := 70) 60 F chk_Rule_rate.1 (ok0_ops C (by omega) _ _) (C.envB (.cons (FnE_mono (r_check_use C) (by omega)) .nil) .nil)
    (C.B.envX (by decide +kernel) (by decide +kernel) fun p hp => by simp [cs_Rule_rate] at hp) chk_Rule_rate.2⟩
theorem o_Rule_rate (C : Ctx tp P w K mg base) : MethSh P w K mg base 80 1 "rate" 1 [] m_Rule_rate := by
  obtain ⟨fd, F, G⟩ := f_Rule_rate C
  exact ⟨_, _, cin_Rule C, He.meth_ok (C.glo (.meth "Rule" "rate") (by simp [tp, fa])), RunSh.pos (ps := N_Rule_rate.take 2) G (F.bindsN fun _ _ _ _ _ _ us hl => match us, hl with | [_, _], _ => rfl)⟩
theorem f_dearer (C : Ctx tp P w K mg base) : ∃ fd, FunD K "dearer" "dearer" (defArgs s_dearer) (defBody s_dearer) (defScope s_dearer) [] [] (He.fAd K d_dearer.at_) fd ∧ FnG P w K mg base (L2.CX P w) 90 (He.fAd K d_dearer.at_) fd (N_dearer.take 3) (bodySp mg g_dearer N_dearer 3 ir_dearer) := by
  obtain ⟨fd, F⟩ := C.c.def_ (d := d_dearer) (by simp [tp, fn])
  exact ⟨fd, F, def_ok (lv := 80) 60 F chk_dearer.1 (ok0_ops C (by omega) _ _) (C.envB (.cons (FnE_mono (r_check_use C) (by omega)) (.cons (FnE_mono (r_Ratio_1 C) (by omega)) .nil)) (.cons (MeE.one (o_Rule_rate C) (by omega)) .nil))
    (C.B.envX (by decide +kernel) (by decide +kernel) fun p hp => by simp [cs_dearer] at hp) chk_dearer.2⟩
theorem r_dearer (C : Ctx tp P w K mg base) : FnE P w K mg base 90 ("dearer", 3, []) m_dearer := by
  obtain ⟨fd, F, G⟩ := f_dearer C
  exact ⟨_, C.mg _ (by simp [tp, fa]), F.kp, RunSh.pos (ps := N_dearer.take 3) G (F.bindsN fun _ _ _ _ _ _ us hl => match us, hl with | [_, _, _], _ => rfl)⟩
theorem f__law_row (C : Ctx tp P w K mg base) : ∃ fd, FunD K "_law_row" "_law_row" (defArgs s__law_row) (defBody s__law_row) (defScope s__law_row) [] [] (He.fAd K d__law_row.at_) fd ∧ FnG P w K mg base (L2.CX P w) 50 (He.fAd K d__law_row.at_) fd (N__law_row.take 1) (bodySp mg g__law_row N__law_row 1 ir__law_row) := by
  obtain ⟨fd, F⟩ := C.c.def_ (d := d__law_row) (by simp [tp, fn])
  exact ⟨fd, F, def_ok (lv := 40) 60 F chk__law_row.1 (ok0_ops C (by omega) _ _) (C.envB .nil .nil)
    (C.B.envX (by decide +kernel) (by decide +kernel) fun p hp => by simp [cs__law_row] at hp) chk__law_row.2⟩
theorem r__law_row (C : Ctx tp P w K mg base) : FnE P w K mg base 50 ("_law_row", 1, []) m__law_row := by
  obtain ⟨fd, F, G⟩ := f__law_row C
  exact ⟨_, C.mg _ (by simp [tp, fa]), F.kp, RunSh.pos (ps := N__law_row.take 1) G (F.bindsN fun _ _ _ _ _ _ us hl => match us, hl with | [_], _ => rfl)⟩
theorem f__law_times (C : Ctx tp P w K mg base) : ∃ fd, FunD K "_law_times" "_law_times" (defArgs s__law_times) (defBody s__law_times) (defScope s__law_times) [] [] (He.fAd K d__law_times.at_) fd ∧ FnG P w K mg base (L2.CX P w) 60 (He.fAd K d__law_times.at_) fd (N__law_times.take 2) (bodySp mg g__law_times N__law_times 2 ir__law_times) := by
  obtain ⟨fd, F⟩ := C.c.def_ (d := d__law_times) (by simp [tp, fn])
  exact ⟨fd, F, def_ok (lv := 50) 60 F chk__law_times.1 (ok0_ops C (by omega) _ _) (C.envB (.cons (FnE_mono (r__law_frac C) (by omega)) .nil) .nil)
    (C.B.envX (by decide +kernel) (by decide +kernel) fun p hp => by simp [cs__law_times] at hp) chk__law_times.2⟩
theorem r__law_times (C : Ctx tp P w K mg base) : FnE P w K mg base 60 ("_law_times", 2, []) m__law_times := by
  obtain ⟨fd, F, G⟩ := f__law_times C
  exact ⟨_, C.mg _ (by simp [tp, fa]), F.kp, RunSh.pos (ps := N__law_times.take 2) G (F.bindsN fun _ _ _ _ _ _ us hl => match us, hl with | [_, _], _ => rfl)⟩
theorem f__law_rate (C : Ctx tp P w K mg base) : ∃ fd, FunD K "_law_rate" "_law_rate" (defArgs s__law_rate) (defBody s__law_rate) (defScope s__law_rate) [] [] (He.fAd K d__law_rate.at_) fd ∧ FnG P w K mg base (L2.CX P w) 60 (He.fAd K d__law_rate.at_) fd (N__law_rate.take 2) (bodySp mg g__law_rate N__law_rate 2 ir__law_rate) := by
  obtain ⟨fd, F⟩ := C.c.def_ (d := d__law_rate) (by simp [tp, fn])
  exact ⟨fd, F, def_ok (lv := 50) 60 F chk__law_rate.1 (ok0_ops C (by omega) _ _) (C.envB (.cons (FnE_mono (r__law_less C) (by omega)) .nil) .nil)
    (C.B.envX (by decide +kernel) (by decide +kernel) fun p hp => by simp [cs__law_rate] at hp) chk__law_rate.2⟩
theorem r__law_rate (C : Ctx tp P w K mg base) : FnE P w K mg base 60 ("_law_rate", 2, []) m__law_rate := by
  obtain ⟨fd, F, G⟩ := f__law_rate C
  exact ⟨_, C.mg _ (by simp [tp, fa]), F.kp, RunSh.pos (ps := N__law_rate.take 2) G (F.bindsN fun _ _ _ _ _ _ us hl => match us, hl with | [_, _], _ => rfl)⟩
theorem f__law_grown (C : Ctx tp P w K mg base) : ∃ fd, FunD K "_law_grown" "_law_grown" (defArgs s__law_grown) (defBody s__law_grown) (defScope s__law_grown) [] [] (He.fAd K d__law_grown.at_) fd ∧ FnG P w K mg base (L2.CX P w) 70 (He.fAd K d__law_grown.at_) fd (N__law_grown.take 2) (bodySp mg g__law_grown N__law_grown 2 ir__law_grown) := by
  obtain ⟨fd, F⟩ := C.c.def_ (d := d__law_grown) (by simp [tp, fn])
  exact ⟨fd, F, def_ok (lv := 60) 60 F chk__law_grown.1 (ok0_ops C (by omega) _ _) (C.envB (.cons (FnE_mono (r__law_times C) (by omega)) (.cons (FnE_mono (r__law_plus C) (by omega)) (.cons (FnE_mono (r__law_rate C) (by omega)) .nil))) .nil)
    (C.B.envX (by decide +kernel) (by decide +kernel) fun p hp => by simp [cs__law_grown] at hp) chk__law_grown.2⟩
theorem r__law_grown (C : Ctx tp P w K mg base) : FnE P w K mg base 70 ("_law_grown", 2, []) m__law_grown := by
  obtain ⟨fd, F, G⟩ := f__law_grown C
  exact ⟨_, C.mg _ (by simp [tp, fa]), F.kp, RunSh.pos (ps := N__law_grown.take 2) G (F.bindsN fun _ _ _ _ _ _ us hl => match us, hl with | [_, _], _ => rfl)⟩
theorem f_Rule_steps (C : Ctx tp P w K mg base) : ∃ fd, FunD K "steps" "Rule.steps" (defArgs s_Rule_steps) (defBody s_Rule_steps) (defScope s_Rule_steps) [] [] (He.fAd K d_Rule_steps.at_) fd ∧ FnG P w K mg base (L2.CX P w) 50 (He.fAd K d_Rule_steps.at_) fd (N_Rule_steps.take 1) (bodySp mg g_Rule_steps N_Rule_steps 1 ir_Rule_steps) := by
  obtain ⟨fd, F⟩ := C.c.def_ (d := d_Rule_steps) (by simp [tp, fn])
  exact ⟨fd, F, def_ok (lv := 40) 60 F chk_Rule_steps.1 (ok0_ops C (by omega) _ _) (C.envB .nil .nil)
    (C.B.envX (by decide +kernel) (by decide +kernel) fun p hp => by simp [cs_Rule_steps] at hp) chk_Rule_steps.2⟩
theorem o_Rule_steps (C : Ctx tp P w K mg base) : MethSh P w K mg base 50 1 "steps" 0 [] m_Rule_steps := by
  obtain ⟨fd, F, G⟩ := f_Rule_steps C
  exact ⟨_, _, cin_Rule C, He.meth_ok (C.glo (.meth "Rule" "steps") (by simp [tp, fa])), RunSh.pos (ps := N_Rule_steps.take 1) G (F.bindsN fun _ _ _ _ _ _ us hl => match us, hl with | [_], _ => rfl)⟩
theorem f_less_at (C : Ctx tp P w K mg base) : ∃ fd, FunD K "less_at" "less_at" (defArgs s_less_at) (defBody s_less_at) (defScope s_less_at) [] [] (He.fAd K d_less_at.at_) fd ∧ FnG P w K mg base (L2.CX P w) 90 (He.fAd K d_less_at.at_) fd (N_less_at.take 2) (bodySp mg g_less_at N_less_at 2 ir_less_at) := by
  obtain ⟨fd, F⟩ := C.c.def_ (d := d_less_at) (by simp [tp, fn])
  exact ⟨fd, F, def_ok (lv := 80) 60 F chk_less_at.1 (ok0_ops C (by omega) _ _) (C.envB .nil (.cons (MeE.one (o_Rule_steps C) (by omega)) (.cons (MeE.one (o_Rule_rate C) (by omega)) .nil)))
    (C.B.envX (by decide +kernel) (by decide +kernel) fun p hp => by simp [cs_less_at] at hp) chk_less_at.2⟩
theorem r_less_at (C : Ctx tp P w K mg base) : FnE P w K mg base 90 ("less_at", 2, []) m_less_at := by
  obtain ⟨fd, F, G⟩ := f_less_at C
  exact ⟨_, C.mg _ (by simp [tp, fa]), F.kp, RunSh.pos (ps := N_less_at.take 2) G (F.bindsN fun _ _ _ _ _ _ us hl => match us, hl with | [_, _], _ => rfl)⟩
theorem f_never_less (C : Ctx tp P w K mg base) : ∃ fd, FunD K "never_less" "never_less" (defArgs s_never_less) (defBody s_never_less) (defScope s_never_less) [] [] (He.fAd K d_never_less.at_) fd ∧ FnG P w K mg base (L2.CX P w) 100 (He.fAd K d_never_less.at_) fd (N_never_less.take 2) (bodySp mg g_never_less N_never_less 2 ir_never_less) := by
  obtain ⟨fd, F⟩ := C.c.def_ (d := d_never_less) (by simp [tp, fn])
  exact ⟨fd, F, def_ok (lv := 90) 60 F chk_never_less.1 (ok0_ops C (by omega) _ _) (C.envB (.cons (FnE_mono (r_less_at C) (by omega)) .nil) .nil)
    (C.B.envX (by decide +kernel) (by decide +kernel) fun p hp => by simp [cs_never_less] at hp) chk_never_less.2⟩
theorem r_never_less (C : Ctx tp P w K mg base) : FnE P w K mg base 100 ("never_less", 2, []) m_never_less := by
  obtain ⟨fd, F, G⟩ := f_never_less C
  exact ⟨_, C.mg _ (by simp [tp, fa]), F.kp, RunSh.pos (ps := N_never_less.take 2) G (F.bindsN fun _ _ _ _ _ _ us hl => match us, hl with | [_, _], _ => rfl)⟩
theorem f_never_dearer (C : Ctx tp P w K mg base) : ∃ fd, FunD K "never_dearer" "never_dearer" (defArgs s_never_dearer) (defBody s_never_dearer) (defScope s_never_dearer) [] [] (He.fAd K d_never_dearer.at_) fd ∧ FnG P w K mg base (L2.CX P w) 110 (He.fAd K d_never_dearer.at_) fd (N_never_dearer.take 2) (bodySp mg g_never_dearer N_never_dearer 2 ir_never_dearer) := by
  obtain ⟨fd, F⟩ := C.c.def_ (d := d_never_dearer) (by simp [tp, fn])
  exact ⟨fd, F, def_ok (lv := 100) 60 F chk_never_dearer.1 (ok0_ops C (by omega) _ _) (C.envB (.cons (FnE_mono (r_never_less C) (by omega)) .nil) .nil)
    (C.B.envX (by decide +kernel) (by decide +kernel) fun p hp => by simp [cs_never_dearer] at hp) chk_never_dearer.2⟩
theorem r_never_dearer (C : Ctx tp P w K mg base) : FnE P w K mg base 110 ("never_dearer", 2, []) m_never_dearer := by
  obtain ⟨fd, F, G⟩ := f_never_dearer C
  exact ⟨_, C.mg _ (by simp [tp, fa]), F.kp, RunSh.pos (ps := N_never_dearer.take 2) G (F.bindsN fun _ _ _ _ _ _ us hl => match us, hl with | [_, _], _ => rfl)⟩
theorem f_dearer_at (C : Ctx tp P w K mg base) : ∃ fd, FunD K "dearer_at" "dearer_at" (defArgs s_dearer_at) (defBody s_dearer_at) (defScope s_dearer_at) [] [] (He.fAd K d_dearer_at.at_) fd ∧ FnG P w K mg base (L2.CX P w) 100 (He.fAd K d_dearer_at.at_) fd (N_dearer_at.take 2) (bodySp mg g_dearer_at N_dearer_at 2 ir_dearer_at) := by
  obtain ⟨fd, F⟩ := C.c.def_ (d := d_dearer_at) (by simp [tp, fn])
  exact ⟨fd, F, def_ok (lv := 90) 60 F chk_dearer_at.1 (ok0_ops C (by omega) _ _) (C.envB (.cons (FnE_mono (r_less_at C) (by omega)) .nil) .nil)
    (C.B.envX (by decide +kernel) (by decide +kernel) fun p hp => by simp [cs_dearer_at] at hp) chk_dearer_at.2⟩
theorem r_dearer_at (C : Ctx tp P w K mg base) : FnE P w K mg base 100 ("dearer_at", 2, []) m_dearer_at := by
  obtain ⟨fd, F, G⟩ := f_dearer_at C
  exact ⟨_, C.mg _ (by simp [tp, fa]), F.kp, RunSh.pos (ps := N_dearer_at.take 2) G (F.bindsN fun _ _ _ _ _ _ us hl => match us, hl with | [_, _], _ => rfl)⟩
theorem f__law_told (C : Ctx tp P w K mg base) : ∃ fd, FunD K "_law_told" "_law_told" (defArgs s__law_told) (defBody s__law_told) (defScope s__law_told) [] [] (He.fAd K d__law_told.at_) fd ∧ FnG P w K mg base (L2.CX P w) 50 (He.fAd K d__law_told.at_) fd (N__law_told.take 1) (bodySp mg g__law_told N__law_told 1 ir__law_told) := by
  obtain ⟨fd, F⟩ := C.c.def_ (d := d__law_told) (by simp [tp, fn])
  exact ⟨fd, F, def_ok (lv := 40) 60 F chk__law_told.1 (ok0_ops C (by omega) _ _) (C.envB .nil .nil)
    (C.B.envX (by decide +kernel) (by decide +kernel) fun p hp => by simp [cs__law_told] at hp) chk__law_told.2⟩
theorem r__law_told (C : Ctx tp P w K mg base) : FnE P w K mg base 50 ("_law_told", 1, []) m__law_told := by
  obtain ⟨fd, F, G⟩ := f__law_told C
  exact ⟨_, C.mg _ (by simp [tp, fa]), F.kp, RunSh.pos (ps := N__law_told.take 1) G (F.bindsN fun _ _ _ _ _ _ us hl => match us, hl with | [_], _ => rfl)⟩
theorem f__law_refused (C : Ctx tp P w K mg base) : ∃ fd, FunD K "_law_refused" "_law_refused" (defArgs s__law_refused) (defBody s__law_refused) (defScope s__law_refused) [] [] (He.fAd K d__law_refused.at_) fd ∧ FnG P w K mg base (L2.CX P w) 100 (He.fAd K d__law_refused.at_) fd (N__law_refused.take 3) (bodySp mg g__law_refused N__law_refused 3 ir__law_refused) := by
  obtain ⟨fd, F⟩ := C.c.def_ (d := d__law_refused) (by simp [tp, fn])
  exact ⟨fd, F, def_ok (lv := 90) 60 F chk__law_refused.1 (ok0_ops C (by omega) _ _) (C.envB (.cons (FnE_mono (r_dearer C) (by omega)) .nil) .nil)
    (C.B.envX (by decide +kernel) (by decide +kernel) fun p hp => by simp [cs__law_refused] at hp) chk__law_refused.2⟩
theorem r__law_refused (C : Ctx tp P w K mg base) : FnE P w K mg base 100 ("_law_refused", 3, []) m__law_refused := by
  obtain ⟨fd, F, G⟩ := f__law_refused C
  exact ⟨_, C.mg _ (by simp [tp, fa]), F.kp, RunSh.pos (ps := N__law_refused.take 3) G (F.bindsN fun _ _ _ _ _ _ us hl => match us, hl with | [_, _, _], _ => rfl)⟩
theorem f_law (C : Ctx tp P w K mg base) : ∃ fd, FunD K "law" "law" (defArgs s_law) (defBody s_law) (defScope s_law) [] [] (He.fAd K d_law.at_) fd ∧ FnG P w K mg base (L2.CX P w) 120 (He.fAd K d_law.at_) fd (N_law.take 1) (bodySp mg g_law N_law 1 ir_law) := by
  obtain ⟨fd, F⟩ := C.c.def_ (d := d_law) (by simp [tp, fn])
  exact ⟨fd, F, def_ok (lv := 110) 60 F chk_law.1 (ok0_ops C (by omega) _ _) (C.envB (.cons (FnE_mono (r__law_box C) (by omega)) (.cons (FnE_mono (r__law_steps C) (by omega)) (.cons (FnE_mono (r__law_take C) (by omega)) (.cons (FnE_mono (r__law_plus C) (by omega)) (.cons (FnE_mono (r__law_rule C) (by omega)) (.cons (FnE_mono (r__law_use C) (by omega)) (.cons (FnE_mono (r__law_ratio C) (by omega)) (.cons (FnE_mono (r_dearer C) (by omega)) (.cons (FnE_mono (r__law_row C) (by omega)) (.cons (FnE_mono (r__law_grown C) (by omega)) (.cons (FnE_mono (r__law_less C) (by omega)) (.cons (FnE_mono (r__law_rate C) (by omega)) (.cons (FnE_mono (r_never_dearer C) (by omega)) (.cons (FnE_mono (r_dearer_at C) (by omega)) (.cons (FnE_mono (r__law_told C) (by omega)) (.cons (FnE_mono (r__law_refused C) (by omega)) .nil)))))))))))))))) .nil)
    (C.B.envX (by decide +kernel) (by decide +kernel) fun p hp => by simp [cs_law] at hp) chk_law.2⟩
end
end K56
end

section
set_option linter.all false
set_option maxRecDepth 100000
set_option maxHeartbeats 1000000
namespace K56
open PySem L2 DI
open PyProof.Rows hiding St
theorem gcd_step (a b : Int) (h : b ≠ 0) : Int.gcd b (a.fmod b) = Int.gcd a b := by
  rw [Int.gcd_comm a b]
  have e : a.fmod b = a - b * a.fdiv b := by have := Int.mul_fdiv_add_fmod a b; omega
  rw [e]
  exact Int.gcd_sub_mul_left_right .. 
theorem fmod_lt (a b : Int) (h : b ≠ 0) : (a.fmod b).natAbs < b.natAbs := by
  rw [Int.fmod_eq_emod]
  have h1 := Int.emod_nonneg a h
  have h2 := Int.emod_lt a h
  split
  · omega
  · rename_i hn
    rw [not_or] at hn
    have h3 : a % b ≠ 0 := fun z => hn.2 (Int.dvd_of_emod_eq_zero z)
    omega
noncomputable def cD : Sl → MS → Res D := fun σ m => evE g0 (.cmp .ne (.var 1) (.con (.int 0))) σ m
noncomputable def bD : Sl → MS → Out := fun σ m => evSs g0 [(.asg (.tup [(.var 0), (.var 1)]) (.tup [(.var 1), (.bin .mod (.var 0) (.var 1))]))] σ m
def st2 (a b : Int) : Sl := [some (.sh (.int a)), some (.sh (.int b))]
theorem cD_eq (a b : Int) (m : MS) : cD (st2 a b) m = .ok (.bl (!decide (b = 0))) m := by
  simp [cD, evE, cmpD, eqD, eqFuel, toP, PyData.eqv, st2]
  rw [Bool.eq_iff_iff]
  simp
theorem bD_eq (a b : Int) (m : MS) (h : b ≠ 0) : bD (st2 a b) m = .nx (st2 b (a.fmod b)) m := by
  have e1 : evE g0 (.tup [(.var 1), (.bin .mod (.var 0) (.var 1))]) (st2 a b) m = .ok (.tup [.int b, .int (a.fmod b)]) m := by
    simp [evE, evEs, st2, splD, liftO, binD, intBin, h, maxLen]
  have e2 : asgT (.tup [(.var 0), (.var 1)]) (.tup [.int b, .int (a.fmod b)]) (st2 a b) = some (st2 b (a.fmod b)) := by
    rfl
  unfold bD
  simp only [evSs, evS]
  rw [e1]
  simp only [Res.out]
  rw [e2]
  rfl
theorem loopD (m : MS) : ∀ (n : Nat) (a b : Int), b.natAbs < n → ∃ c : Int, c.natAbs = Int.gcd a b ∧ whlN cD bD n (st2 a b) m = .nx (st2 c 0) m := by
  intro n
  induction n with
  | zero => intro a b h; omega
  | succ n ih =>
    intro a b h
    by_cases hb : b = 0
    · subst hb
      exact ⟨a, by simp, by simp [whlN, cD_eq]⟩
    · obtain ⟨c, h1, h2⟩ := ih b (a.fmod b) (by have := fmod_lt a b hb; omega)
      exact ⟨c, by rw [h1, gcd_step a b hb], by simp [whlN, cD_eq, hb, bD_eq, h2]⟩
theorem divisor_ok (a b : Int) (m : MS) : m_divisor_of [.int a, .int b] m = .ok (.int (Int.gcd a b)) m := by
  obtain ⟨c, h1, h2⟩ := loopD m (b.natAbs + 1) a b (Nat.lt_succ_self _)
  have h3 := whl_eq h2 (fun z => nomatch z)
  have e : evS g0 (.whl (.cmp .ne (.var 1) (.con (.int 0))) [(.asg (.tup [(.var 0), (.var 1)]) (.tup [(.var 1), (.bin .mod (.var 0) (.var 1))]))]) (st2 a b) m = .nx (st2 c 0) m := by
    rw [← h3]
    simp only [evS]
    rfl
  have hs : [some (SV.sh (D.int a)), some (SV.sh (D.int b))] = st2 a b := rfl
  have ha : (if c < 0 then -c else c) = (Int.gcd a b : Int) := by rw [← h1]; split <;> omega
  simp [m_divisor_of, evF, ir_divisor_of, evSs, hs, e]
  simp [evS, evE, evEs, splD, liftO, biD, st2, ha]
end K56
end

section
set_option linter.all false
set_option maxRecDepth 100000
set_option maxHeartbeats 1000000
namespace K56
open PySem L2 DI
open PyProof.Rows hiding St
def dv (a b : Int) : Int := if 0 < b then (Int.gcd a b : Int) else -(Int.gcd a b : Int)
def nt (a b : Int) : Int := a.fdiv (dv a b)
def nb (a b : Int) : Int := b.fdiv (dv a b)
theorem gcd_pos {a b : Int} (h : b ≠ 0) : 0 < Int.gcd a b := Int.gcd_pos_of_ne_zero_right a h
theorem dv_ne {a b : Int} (h : b ≠ 0) : dv a b ≠ 0 := by
  have := gcd_pos (a := a) h
  unfold dv; split <;> omega
theorem dv_abs (a b : Int) : (dv a b).natAbs = Int.gcd a b := by
  unfold dv; split <;> simp
theorem dv_le {a b : Int} (h : b ≠ 0) : (dv a b).natAbs ≤ b.natAbs := by
  rw [dv_abs]
  have : (Int.gcd a b : Int).natAbs ∣ b.natAbs := Int.natAbs_dvd_natAbs.mpr (Int.gcd_dvd_right a b)
  exact Nat.le_of_dvd (by omega) (by simpa using this)
theorem dv_dl (a b : Int) : dv a b ∣ a := by
  unfold dv; split
  · exact Int.gcd_dvd_left a b
  · exact Int.neg_dvd.mpr (Int.gcd_dvd_left a b)
theorem dv_dr (a b : Int) : dv a b ∣ b := by
  unfold dv; split
  · exact Int.gcd_dvd_right a b
  · exact Int.neg_dvd.mpr (Int.gcd_dvd_right a b)
theorem nt_mul (a b : Int) : nt a b * dv a b = a := by
  unfold nt
  rw [Int.fdiv_eq_ediv_of_dvd (dv_dl a b)]
  exact Int.ediv_mul_cancel (dv_dl a b)
theorem nb_mul (a b : Int) : nb a b * dv a b = b := by
  unfold nb
  rw [Int.fdiv_eq_ediv_of_dvd (dv_dr a b)]
  exact Int.ediv_mul_cancel (dv_dr a b)
theorem le_mul {x d y : Int} (h : x * d = y) (hd : d ≠ 0) : x.natAbs ≤ y.natAbs := by
  rw [← h, Int.natAbs_mul]
  exact Nat.le_mul_of_pos_right _ (by omega)
theorem nt_le {a b : Int} (h : b ≠ 0) : (nt a b).natAbs ≤ a.natAbs := le_mul (nt_mul a b) (dv_ne h)
theorem nb_le {a b : Int} (h : b ≠ 0) : (nb a b).natAbs ≤ b.natAbs := le_mul (nb_mul a b) (dv_ne h)
theorem nb_pos {a b : Int} (h : b ≠ 0) : 0 < nb a b := by
  have e := nb_mul a b
  have g := gcd_pos (a := a) h
  unfold dv at e
  split at e
  · rename_i hb
    rcases Int.lt_trichotomy (nb a b) 0 with z | z | z
    · have := Int.mul_neg_of_neg_of_pos z (show (0:Int) < (Int.gcd a b : Int) by omega)
      omega
    · rw [z] at e; omega
    · exact z
  · rename_i hb
    rcases Int.lt_trichotomy (nb a b) 0 with z | z | z
    · have := Int.mul_pos_of_neg_of_neg z (show -(Int.gcd a b : Int) < 0 by omega)
      omega
    · rw [z] at e; omega
    · exact z
theorem scale {a b k : Int} (hk : k ≠ 0) (hb : b ≠ 0) : nt (k * a) (k * b) = nt a b ∧ nb (k * a) (k * b) = nb a b := by
  have e : dv (k * a) (k * b) = k * dv a b := by
    unfold dv
    rw [Int.gcd_mul_left]
    rcases Int.lt_trichotomy k 0 with z | z | z
    · have hn : ((k.natAbs : Nat) : Int) = -k := by omega
      rcases Int.lt_trichotomy b 0 with y | y | y
      · rw [if_pos (Int.mul_pos_of_neg_of_neg z y), if_neg (by omega)]
        push_cast
        rw [hn]; grind
      · exact absurd y hb
      · rw [if_neg (by have := Int.mul_neg_of_neg_of_pos z y; omega), if_pos y]
        push_cast
        rw [hn]; grind
    · exact absurd z hk
    · have hn : ((k.natAbs : Nat) : Int) = k := by omega
      rcases Int.lt_trichotomy b 0 with y | y | y
      · rw [if_neg (by have := Int.mul_neg_of_pos_of_neg z y; omega), if_neg (by omega)]
        push_cast
        rw [hn]; grind
      · exact absurd y hb
      · rw [if_pos (Int.mul_pos z y), if_pos y]
        push_cast
        rw [hn]
  have hd := dv_ne (a := a) hb
  have hkd : k * dv a b ≠ 0 := Int.mul_ne_zero hk hd
  constructor
  · apply Int.eq_of_mul_eq_mul_right hkd
    rw [← e, nt_mul, e]
    rw [← Int.mul_assoc, Int.mul_comm (nt a b) k, Int.mul_assoc, nt_mul]
  · apply Int.eq_of_mul_eq_mul_right hkd
    rw [← e, nb_mul, e]
    rw [← Int.mul_assoc, Int.mul_comm (nb a b) k, Int.mul_assoc, nb_mul]
/-- of equal worth, the same -/
theorem uniq {a b c d : Int} (hb : b ≠ 0) (hd : d ≠ 0) (h : a * d = c * b) : nt a b = nt c d ∧ nb a b = nb c d := by
  have h1 := scale (a := a) (k := d) hd hb
  have h2 := scale (a := c) (k := b) hb hd
  rw [← h1.1, ← h1.2, ← h2.1, ← h2.2, Int.mul_comm d a, h, Int.mul_comm c b, Int.mul_comm d b]
  exact ⟨rfl, rfl⟩
/-- the same worth -/
theorem cross (a b : Int) : nt a b * b = a * nb a b := by
  have h1 := nt_mul a b
  have h2 := nb_mul a b
  grind
/-- in lowest terms -/
theorem idem {a b : Int} (hb : b ≠ 0) : nt (nt a b) (nb a b) = nt a b ∧ nb (nt a b) (nb a b) = nb a b :=
  uniq (by have := nb_pos (a := a) hb; omega) hb (cross a b)
theorem whole (n : Int) : nt n 1 = n ∧ nb n 1 = 1 := by
  have : dv n 1 = 1 := by simp [dv]
  simp [nt, nb, this]
/-- small numbers -/
def Sm (i : Int) : Prop := i.natAbs < 2 ^ 2000
theorem divOk_of {j : Int} (h : j ≠ 0) (h2 : Sm j) : divOk j := ⟨h, Nat.lt_of_lt_of_le h2 (Nat.pow_le_pow_right (by decide) (by decide))⟩
theorem mulOk_of {i j : Int} (h : Sm i) (h2 : Sm j) : mulOk i j := by
  have e : (2 : Nat) ^ 2000 ≤ 2 ^ mulBits := Nat.pow_le_pow_right (by decide) (by decide)
  exact ⟨Nat.lt_of_lt_of_le h e, Nat.lt_of_lt_of_le h2 e⟩

/-! ### the program's functions -/
theorem is_integer_int (i : Int) (m : MS) : m_is_integer [.int i] m = .ok (.bl true) m := by
  simp [m_is_integer, evF, ir_is_integer, evSs, evS, evE, evEs, tyN, inner, kdIs, g0]
theorem is_integer_obj (c : Nat) (fs : List (Str × D)) (m : MS) : m_is_integer [.obj c fs] m = .ok (.bl false) m := by
  simp [m_is_integer, evF, ir_is_integer, evSs, evS, evE, evEs, tyN, inner, kdIs, g0]
/-- a Ratio -/
def rat (a b : Int) : D := .obj 0 [("top", .int a), ("bottom", .int b)]
theorem parts_int (i : Int) (m : MS) : m_parts [.int i] m = .ok (.tup [.int i, .int 1]) m := by
  simp [m_parts, evF, ir_parts, evSs, evS, evE, evEs, g_parts, callD, splD, liftO, is_integer_int, maxLen]
theorem bt : (Str.ofString "bottom" == Str.ofString "top") = false := by decide +kernel
theorem tb : (Str.ofString "top" == Str.ofString "bottom") = false := by decide +kernel
theorem tb' : ¬ (Str.ofString "top" = Str.ofString "bottom") := by decide +kernel
theorem parts_rat (a b : Int) (m : MS) : m_parts [rat a b] m = .ok (.tup [.int a, .int b]) m := by
  simp [m_parts, evF, ir_parts, evSs, evS, evE, evEs, g_parts, callD, splD, liftO, is_integer_obj, maxLen, rat, tyN, inner, kdIs, attrD, flds, List.lookup_cons, bt]
theorem checked_int (i : Int) (m : MS) : m_checked [.int i] m = .ok (.tup [.int i, .int 1]) m := by
  simp [m_checked, evF, ir_checked, evSs, evS, evE, evEs, g_checked, callD, splD, liftO, parts_int, asgT, nxO]
theorem checked_rat (a b : Int) (m : MS) : m_checked [rat a b] m = .ok (.tup [.int a, .int b]) m := by
  simp [m_checked, evF, ir_checked, evSs, evS, evE, evEs, g_checked, callD, splD, liftO, parts_rat, asgT, nxO]
theorem Ratio2_zero (a : Int) (m : MS) : m_Ratio2 [.int a, .int 0] m = .exc ⟨"ByZero", none⟩ m := by
  simp [m_Ratio2, evC0, ir_Ratio___init__, evSs, evS, evE, evEs, cmpD, eqD, eqFuel, toP, PyData.eqv]
theorem Ratio2_ok {a b : Int} (h : b ≠ 0) (hs : Sm b) (m : MS) : m_Ratio2 [.int a, .int b] m = .ok (rat (nt a b) (nb a b)) m := by
  have hd : divOk (dv a b) := divOk_of (dv_ne h) (Nat.lt_of_le_of_lt (dv_le h) hs)
  have hb : (b == 0) = false := by simpa using h
  have h1 : evS g_init (.ite (.cmp .eq (.var 2) (.con (.int 0))) [(.raise "ByZero" [])] []) [some (.ow (.ins 0 [])), some (.sh (.int a)), some (.sh (.int b)), none] m = .nx [some (.ow (.ins 0 [])), some (.sh (.int a)), some (.sh (.int b)), none] m := by
    simp [evSs, evS, evE, evEs, cmpD, eqD, eqFuel, toP, PyData.eqv, hb]
  have h2 : evS g_init (.asg (.var 3) (.ite (.cmp .gt (.var 2) (.con (.int 0))) (.call 0 [(.var 1), (.var 2)] []) (.neg (.call 0 [(.var 1), (.var 2)] [])))) [some (.ow (.ins 0 [])), some (.sh (.int a)), some (.sh (.int b)), none] m = .nx [some (.ow (.ins 0 [])), some (.sh (.int a)), some (.sh (.int b)), some (.sh (.int (dv a b)))] m := by
    by_cases z : 0 < b <;>
    simp [evSs, evS, evE, evEs, cmpD, g_init, callD, splD, liftO, divisor_ok, z, negD, asgT, nxO, dv]
  have h3 : evS g_init (.atV 0 "top" (.bin .fdiv (.var 1) (.var 3))) [some (.ow (.ins 0 [])), some (.sh (.int a)), some (.sh (.int b)), some (.sh (.int (dv a b)))] m = .nx [some (.ow (.ins 0 [("top", .int (nt a b))])), some (.sh (.int a)), some (.sh (.int b)), some (.sh (.int (dv a b)))] m := by
    simp [evSs, evS, evE, evEs, binD, intBin, hd, ownS, attD, g_init, flds, putA, nt]
  have h4 : evS g_init (.atV 0 "bottom" (.bin .fdiv (.var 2) (.var 3))) [some (.ow (.ins 0 [("top", .int (nt a b))])), some (.sh (.int a)), some (.sh (.int b)), some (.sh (.int (dv a b)))] m = .nx [some (.ow (.ins 0 [("top", .int (nt a b)), ("bottom", .int (nb a b))])), some (.sh (.int a)), some (.sh (.int b)), some (.sh (.int (dv a b)))] m := by
    simp [evSs, evS, evE, evEs, binD, intBin, hd, ownS, attD, g_init, flds, putA, nb, tb']
  have e : evSs g_init ir_Ratio___init__ [some (.ow (.ins 0 [])), some (.sh (.int a)), some (.sh (.int b)), none] m = .nx [some (.ow (.ins 0 [("top", .int (nt a b)), ("bottom", .int (nb a b))])), some (.sh (.int a)), some (.sh (.int b)), some (.sh (.int (dv a b)))] m := by
    unfold ir_Ratio___init__
    simp only [evSs, h1, h2, h3, h4]
  unfold m_Ratio2 evC0
  simp only [List.length_cons, List.length_nil, Nat.reduceAdd, if_true, List.map_cons, List.map_nil, List.cons_append, List.nil_append, Nat.reduceSub, List.replicate]
  rw [e]
  rfl
theorem Ratio1_ok (n : Int) (m : MS) : m_Ratio1 [.int n] m = .ok (rat n 1) m := by
  have e : m_Ratio1 [.int n] m = m_Ratio2 [.int n, .int 1] m := rfl
  rw [e, Ratio2_ok (by decide) (by unfold Sm; exact Nat.lt_of_lt_of_le (by decide : (1:Int).natAbs < 2 ^ 1) (Nat.pow_le_pow_right (by decide) (by decide))), (whole n).1, (whole n).2]
end K56
end

section
set_option linter.all false
set_option exponentiation.threshold 100000
set_option maxRecDepth 100000
set_option maxHeartbeats 1000000
namespace K56
open PySem L2 DI
open PyProof.Rows hiding St
open DI.Ev
theorem attr_top (a b : Int) (g : G) (h : g.fld = flds) (m : MS) : attrD g (rat a b) "top" m = some (.int a) := by
  simp [attrD, rat, h, flds]
theorem attr_bottom (a b : Int) (g : G) (h : g.fld = flds) (m : MS) : attrD g (rat a b) "bottom" m = some (.int b) := by
  simp [attrD, rat, h, flds, List.lookup_cons, bt]
/-- y is a number worth c / d -/
structure Ch (y : D) (c d : Int) : Prop where
  ch : ∀ m, m_checked [y] m = .ok (.tup [.int c, .int d]) m
  pa : ∀ m, m_parts [y] m = .ok (.tup [.int c, .int d]) m
  nr : ∀ i, y ≠ .ref i
theorem ch_int (n : Int) : Ch (.int n) n 1 := ⟨checked_int n, parts_int n, fun _ h => nomatch h⟩
theorem ch_rat (a b : Int) : Ch (rat a b) a b := ⟨checked_rat a b, parts_rat a b, fun _ h => nomatch h⟩
variable {a b c d : Int} {y : D} {m : MS}
theorem add_ok (h : Ch y c d) (hb : b ≠ 0) (hd : d ≠ 0) (sa : Sm a) (sb : Sm b) (sc : Sm c) (sd : Sm d) (s : Sm (b * d)) : m_Ratio___add__ [rat a b, y] m = .ok (rat (nt (a * d + c * b) (b * d)) (nb (a * d + c * b) (b * d))) m := by
  have f1 : g_Ratio___add__.fn = [m_checked, m_Ratio2] := rfl
  have f2 : g_Ratio___add__.fld = flds := rfl
  unfold m_Ratio___add__ ir_Ratio___add__
  simp only [DI.Ev.ss_nil, DI.Ev.ss_cons, DI.Ev.st_try, DI.Ev.ee_0, DI.Ev.ee_1, DI.Ev.ee_2, DI.Ev.ee_3, DI.Ev.ee_4, DI.Ev.ee_5, DI.Ev.ee_6, DI.Ev.ee_7, DI.Ev.ee_8, DI.Ev.ee_9, DI.Ev.ee_10, DI.Ev.ee_11, DI.Ev.ee_12, DI.Ev.ee_13, DI.Ev.ee_14, DI.Ev.ee_15, DI.Ev.ee_16, DI.Ev.ee_17, DI.Ev.ee_18, DI.Ev.ee_19, DI.Ev.ee_20, DI.Ev.ee_21, DI.Ev.ee_22, DI.Ev.ee_23, DI.Ev.ee_24, DI.Ev.ee_25, DI.Ev.ee_26, DI.Ev.ee_27, DI.Ev.ee_28, DI.Ev.ee_29, DI.Ev.ee_30, DI.Ev.es_0, DI.Ev.es_1, DI.Ev.eo_0, DI.Ev.eo_1, DI.Ev.ec_0, DI.Ev.ec_1, DI.Ev.ei_0, DI.Ev.ei_1, DI.Ev.ei_2, DI.Ev.ei_3, DI.Ev.ei_4, DI.Ev.ei_5, DI.Ev.ei_6, DI.Ev.st_0, DI.Ev.st_1, DI.Ev.st_2, DI.Ev.st_3, DI.Ev.st_4, DI.Ev.st_5, DI.Ev.st_6, DI.Ev.st_7, DI.Ev.st_8, DI.Ev.st_9, DI.Ev.st_10, DI.Ev.st_11, DI.Ev.st_12, DI.Ev.st_13, DI.Ev.st_14, DI.Ev.st_17, DI.Ev.st_18, DI.Ev.st_19, DI.Ev.st_20, evH, DI.Ev.compX_nil, DI.Ev.compX_cons, DI.Ev.noX_ok, ↓reduceIte, DI.T.slots, DI.T.slotss, DI.wipeS, DI.Ev.bind_ok, DI.Ev.bind_exc, DI.Ev.out_ok, DI.Ev.out_exc, DI.Ev.seq_nx, DI.Ev.seq_ret, DI.Ev.seq_exc, DI.Ev.seq_brk, DI.Ev.seq_ct, DI.Ev.rnd_nx, DI.Ev.rnd_ct, DI.Ev.rnd_brk, DI.Ev.rnd_ret, DI.Ev.rnd_exc, DI.Ev.tr_nx, DI.Ev.tr_ret, DI.Ev.tr_exc, DI.Ev.fin_ret, DI.Ev.fin_nx, DI.Ev.fin_exc, DI.Ev.st_for, DI.Ev.forF_eq, DI.Ev.e_lcomp, DI.Ev.e_dcomp, DI.Ev.compF_eq, DI.Ev.compG_eq, DI.Ev.forX_cons, DI.Ev.forX_nil, DI.Ev.evF_eq, DI.Ev.nxO_some, DI.Ev.asg_var, DI.Ev.asg_tup, DI.Ev.asg_lst, DI.Ev.asgs_nil, DI.Ev.asgs_cons, DI.Ev.obind, DI.Ev.lift_some, DI.Ev.call_some, DI.Ev.bin_add, DI.Ev.bin_sub, DI.Ev.negD_int, DI.Ev.cmp_lt, DI.Ev.cmp_le, DI.Ev.cmp_gt, DI.Ev.cmp_ge, DI.Ev.cmp_eqI, DI.Ev.cmp_neI, DI.Ev.cmp_eqB, DI.Ev.cmp_neB, DI.Ev.cmp_eqT, splD, List.length_cons, List.length_nil, Nat.reduceAdd, Nat.reduceSub, Nat.reduceLeDiff, Nat.reduceLT, Nat.le_refl, List.cons_append, List.nil_append, List.append_nil, List.map_cons, List.map_nil, List.replicate, List.getElem?_cons_zero, List.getElem?_cons_succ, List.getElem?_nil, List.set_cons_zero, List.set_cons_succ, if_true, if_false, ite_true, ite_false, and_self, and_true, true_and, reduceCtorEq, Bool.not_true, Bool.not_false, decide_true, decide_false, maxLen, f1, f2, h.ch, attr_top, attr_bottom, bin_mul, mulOk_of, sa, sb, sc, sd, Ratio2_ok, s, ne_eq, Int.mul_eq_zero, hb, hd, or_self, not_false_eq_true]
theorem sub_ok (h : Ch y c d) (hb : b ≠ 0) (hd : d ≠ 0) (sa : Sm a) (sb : Sm b) (sc : Sm c) (sd : Sm d) (s : Sm (b * d)) : m_Ratio___sub__ [rat a b, y] m = .ok (rat (nt (a * d - c * b) (b * d)) (nb (a * d - c * b) (b * d))) m := by
  have f1 : g_Ratio___sub__.fn = [m_checked, m_Ratio2] := rfl
  have f2 : g_Ratio___sub__.fld = flds := rfl
  unfold m_Ratio___sub__ ir_Ratio___sub__
  simp only [DI.Ev.ss_nil, DI.Ev.ss_cons, DI.Ev.st_try, DI.Ev.ee_0, DI.Ev.ee_1, DI.Ev.ee_2, DI.Ev.ee_3, DI.Ev.ee_4, DI.Ev.ee_5, DI.Ev.ee_6, DI.Ev.ee_7, DI.Ev.ee_8, DI.Ev.ee_9, DI.Ev.ee_10, DI.Ev.ee_11, DI.Ev.ee_12, DI.Ev.ee_13, DI.Ev.ee_14, DI.Ev.ee_15, DI.Ev.ee_16, DI.Ev.ee_17, DI.Ev.ee_18, DI.Ev.ee_19, DI.Ev.ee_20, DI.Ev.ee_21, DI.Ev.ee_22, DI.Ev.ee_23, DI.Ev.ee_24, DI.Ev.ee_25, DI.Ev.ee_26, DI.Ev.ee_27, DI.Ev.ee_28, DI.Ev.ee_29, DI.Ev.ee_30, DI.Ev.es_0, DI.Ev.es_1, DI.Ev.eo_0, DI.Ev.eo_1, DI.Ev.ec_0, DI.Ev.ec_1, DI.Ev.ei_0, DI.Ev.ei_1, DI.Ev.ei_2, DI.Ev.ei_3, DI.Ev.ei_4, DI.Ev.ei_5, DI.Ev.ei_6, DI.Ev.st_0, DI.Ev.st_1, DI.Ev.st_2, DI.Ev.st_3, DI.Ev.st_4, DI.Ev.st_5, DI.Ev.st_6, DI.Ev.st_7, DI.Ev.st_8, DI.Ev.st_9, DI.Ev.st_10, DI.Ev.st_11, DI.Ev.st_12, DI.Ev.st_13, DI.Ev.st_14, DI.Ev.st_17, DI.Ev.st_18, DI.Ev.st_19, DI.Ev.st_20, evH, DI.Ev.compX_nil, DI.Ev.compX_cons, DI.Ev.noX_ok, ↓reduceIte, DI.T.slots, DI.T.slotss, DI.wipeS, DI.Ev.bind_ok, DI.Ev.bind_exc, DI.Ev.out_ok, DI.Ev.out_exc, DI.Ev.seq_nx, DI.Ev.seq_ret, DI.Ev.seq_exc, DI.Ev.seq_brk, DI.Ev.seq_ct, DI.Ev.rnd_nx, DI.Ev.rnd_ct, DI.Ev.rnd_brk, DI.Ev.rnd_ret, DI.Ev.rnd_exc, DI.Ev.tr_nx, DI.Ev.tr_ret, DI.Ev.tr_exc, DI.Ev.fin_ret, DI.Ev.fin_nx, DI.Ev.fin_exc, DI.Ev.st_for, DI.Ev.forF_eq, DI.Ev.e_lcomp, DI.Ev.e_dcomp, DI.Ev.compF_eq, DI.Ev.compG_eq, DI.Ev.forX_cons, DI.Ev.forX_nil, DI.Ev.evF_eq, DI.Ev.nxO_some, DI.Ev.asg_var, DI.Ev.asg_tup, DI.Ev.asg_lst, DI.Ev.asgs_nil, DI.Ev.asgs_cons, DI.Ev.obind, DI.Ev.lift_some, DI.Ev.call_some, DI.Ev.bin_add, DI.Ev.bin_sub, DI.Ev.negD_int, DI.Ev.cmp_lt, DI.Ev.cmp_le, DI.Ev.cmp_gt, DI.Ev.cmp_ge, DI.Ev.cmp_eqI, DI.Ev.cmp_neI, DI.Ev.cmp_eqB, DI.Ev.cmp_neB, DI.Ev.cmp_eqT, splD, List.length_cons, List.length_nil, Nat.reduceAdd, Nat.reduceSub, Nat.reduceLeDiff, Nat.reduceLT, Nat.le_refl, List.cons_append, List.nil_append, List.append_nil, List.map_cons, List.map_nil, List.replicate, List.getElem?_cons_zero, List.getElem?_cons_succ, List.getElem?_nil, List.set_cons_zero, List.set_cons_succ, if_true, if_false, ite_true, ite_false, and_self, and_true, true_and, reduceCtorEq, Bool.not_true, Bool.not_false, decide_true, decide_false, maxLen, f1, f2, h.ch, attr_top, attr_bottom, bin_mul, mulOk_of, sa, sb, sc, sd, Ratio2_ok, s, ne_eq, Int.mul_eq_zero, hb, hd, or_self, not_false_eq_true]
theorem mul_ok (h : Ch y c d) (hb : b ≠ 0) (hd : d ≠ 0) (sa : Sm a) (sb : Sm b) (sc : Sm c) (sd : Sm d) (s : Sm (b * d)) : m_Ratio___mul__ [rat a b, y] m = .ok (rat (nt (a * c) (b * d)) (nb (a * c) (b * d))) m := by
  have f1 : g_Ratio___mul__.fn = [m_checked, m_Ratio2] := rfl
  have f2 : g_Ratio___mul__.fld = flds := rfl
  unfold m_Ratio___mul__ ir_Ratio___mul__
  simp only [DI.Ev.ss_nil, DI.Ev.ss_cons, DI.Ev.st_try, DI.Ev.ee_0, DI.Ev.ee_1, DI.Ev.ee_2, DI.Ev.ee_3, DI.Ev.ee_4, DI.Ev.ee_5, DI.Ev.ee_6, DI.Ev.ee_7, DI.Ev.ee_8, DI.Ev.ee_9, DI.Ev.ee_10, DI.Ev.ee_11, DI.Ev.ee_12, DI.Ev.ee_13, DI.Ev.ee_14, DI.Ev.ee_15, DI.Ev.ee_16, DI.Ev.ee_17, DI.Ev.ee_18, DI.Ev.ee_19, DI.Ev.ee_20, DI.Ev.ee_21, DI.Ev.ee_22, DI.Ev.ee_23, DI.Ev.ee_24, DI.Ev.ee_25, DI.Ev.ee_26, DI.Ev.ee_27, DI.Ev.ee_28, DI.Ev.ee_29, DI.Ev.ee_30, DI.Ev.es_0, DI.Ev.es_1, DI.Ev.eo_0, DI.Ev.eo_1, DI.Ev.ec_0, DI.Ev.ec_1, DI.Ev.ei_0, DI.Ev.ei_1, DI.Ev.ei_2, DI.Ev.ei_3, DI.Ev.ei_4, DI.Ev.ei_5, DI.Ev.ei_6, DI.Ev.st_0, DI.Ev.st_1, DI.Ev.st_2, DI.Ev.st_3, DI.Ev.st_4, DI.Ev.st_5, DI.Ev.st_6, DI.Ev.st_7, DI.Ev.st_8, DI.Ev.st_9, DI.Ev.st_10, DI.Ev.st_11, DI.Ev.st_12, DI.Ev.st_13, DI.Ev.st_14, DI.Ev.st_17, DI.Ev.st_18, DI.Ev.st_19, DI.Ev.st_20, evH, DI.Ev.compX_nil, DI.Ev.compX_cons, DI.Ev.noX_ok, ↓reduceIte, DI.T.slots, DI.T.slotss, DI.wipeS, DI.Ev.bind_ok, DI.Ev.bind_exc, DI.Ev.out_ok, DI.Ev.out_exc, DI.Ev.seq_nx, DI.Ev.seq_ret, DI.Ev.seq_exc, DI.Ev.seq_brk, DI.Ev.seq_ct, DI.Ev.rnd_nx, DI.Ev.rnd_ct, DI.Ev.rnd_brk, DI.Ev.rnd_ret, DI.Ev.rnd_exc, DI.Ev.tr_nx, DI.Ev.tr_ret, DI.Ev.tr_exc, DI.Ev.fin_ret, DI.Ev.fin_nx, DI.Ev.fin_exc, DI.Ev.st_for, DI.Ev.forF_eq, DI.Ev.e_lcomp, DI.Ev.e_dcomp, DI.Ev.compF_eq, DI.Ev.compG_eq, DI.Ev.forX_cons, DI.Ev.forX_nil, DI.Ev.evF_eq, DI.Ev.nxO_some, DI.Ev.asg_var, DI.Ev.asg_tup, DI.Ev.asg_lst, DI.Ev.asgs_nil, DI.Ev.asgs_cons, DI.Ev.obind, DI.Ev.lift_some, DI.Ev.call_some, DI.Ev.bin_add, DI.Ev.bin_sub, DI.Ev.negD_int, DI.Ev.cmp_lt, DI.Ev.cmp_le, DI.Ev.cmp_gt, DI.Ev.cmp_ge, DI.Ev.cmp_eqI, DI.Ev.cmp_neI, DI.Ev.cmp_eqB, DI.Ev.cmp_neB, DI.Ev.cmp_eqT, splD, List.length_cons, List.length_nil, Nat.reduceAdd, Nat.reduceSub, Nat.reduceLeDiff, Nat.reduceLT, Nat.le_refl, List.cons_append, List.nil_append, List.append_nil, List.map_cons, List.map_nil, List.replicate, List.getElem?_cons_zero, List.getElem?_cons_succ, List.getElem?_nil, List.set_cons_zero, List.set_cons_succ, if_true, if_false, ite_true, ite_false, and_self, and_true, true_and, reduceCtorEq, Bool.not_true, Bool.not_false, decide_true, decide_false, maxLen, f1, f2, h.ch, attr_top, attr_bottom, bin_mul, mulOk_of, sa, sb, sc, sd, Ratio2_ok, s, ne_eq, Int.mul_eq_zero, hb, hd, or_self, not_false_eq_true]
theorem neg_ok (hb : b ≠ 0) (sb : Sm b) : m_Ratio___neg__ [rat a b] m = .ok (rat (nt (-a) b) (nb (-a) b)) m := by
  have f1 : g_Ratio___neg__.fn = [m_Ratio2] := rfl
  have f2 : g_Ratio___neg__.fld = flds := rfl
  unfold m_Ratio___neg__ ir_Ratio___neg__
  simp only [DI.Ev.ss_nil, DI.Ev.ss_cons, DI.Ev.st_try, DI.Ev.ee_0, DI.Ev.ee_1, DI.Ev.ee_2, DI.Ev.ee_3, DI.Ev.ee_4, DI.Ev.ee_5, DI.Ev.ee_6, DI.Ev.ee_7, DI.Ev.ee_8, DI.Ev.ee_9, DI.Ev.ee_10, DI.Ev.ee_11, DI.Ev.ee_12, DI.Ev.ee_13, DI.Ev.ee_14, DI.Ev.ee_15, DI.Ev.ee_16, DI.Ev.ee_17, DI.Ev.ee_18, DI.Ev.ee_19, DI.Ev.ee_20, DI.Ev.ee_21, DI.Ev.ee_22, DI.Ev.ee_23, DI.Ev.ee_24, DI.Ev.ee_25, DI.Ev.ee_26, DI.Ev.ee_27, DI.Ev.ee_28, DI.Ev.ee_29, DI.Ev.ee_30, DI.Ev.es_0, DI.Ev.es_1, DI.Ev.eo_0, DI.Ev.eo_1, DI.Ev.ec_0, DI.Ev.ec_1, DI.Ev.ei_0, DI.Ev.ei_1, DI.Ev.ei_2, DI.Ev.ei_3, DI.Ev.ei_4, DI.Ev.ei_5, DI.Ev.ei_6, DI.Ev.st_0, DI.Ev.st_1, DI.Ev.st_2, DI.Ev.st_3, DI.Ev.st_4, DI.Ev.st_5, DI.Ev.st_6, DI.Ev.st_7, DI.Ev.st_8, DI.Ev.st_9, DI.Ev.st_10, DI.Ev.st_11, DI.Ev.st_12, DI.Ev.st_13, DI.Ev.st_14, DI.Ev.st_17, DI.Ev.st_18, DI.Ev.st_19, DI.Ev.st_20, evH, DI.Ev.compX_nil, DI.Ev.compX_cons, DI.Ev.noX_ok, ↓reduceIte, DI.T.slots, DI.T.slotss, DI.wipeS, DI.Ev.bind_ok, DI.Ev.bind_exc, DI.Ev.out_ok, DI.Ev.out_exc, DI.Ev.seq_nx, DI.Ev.seq_ret, DI.Ev.seq_exc, DI.Ev.seq_brk, DI.Ev.seq_ct, DI.Ev.rnd_nx, DI.Ev.rnd_ct, DI.Ev.rnd_brk, DI.Ev.rnd_ret, DI.Ev.rnd_exc, DI.Ev.tr_nx, DI.Ev.tr_ret, DI.Ev.tr_exc, DI.Ev.fin_ret, DI.Ev.fin_nx, DI.Ev.fin_exc, DI.Ev.st_for, DI.Ev.forF_eq, DI.Ev.e_lcomp, DI.Ev.e_dcomp, DI.Ev.compF_eq, DI.Ev.compG_eq, DI.Ev.forX_cons, DI.Ev.forX_nil, DI.Ev.evF_eq, DI.Ev.nxO_some, DI.Ev.asg_var, DI.Ev.asg_tup, DI.Ev.asg_lst, DI.Ev.asgs_nil, DI.Ev.asgs_cons, DI.Ev.obind, DI.Ev.lift_some, DI.Ev.call_some, DI.Ev.bin_add, DI.Ev.bin_sub, DI.Ev.negD_int, DI.Ev.cmp_lt, DI.Ev.cmp_le, DI.Ev.cmp_gt, DI.Ev.cmp_ge, DI.Ev.cmp_eqI, DI.Ev.cmp_neI, DI.Ev.cmp_eqB, DI.Ev.cmp_neB, DI.Ev.cmp_eqT, splD, List.length_cons, List.length_nil, Nat.reduceAdd, Nat.reduceSub, Nat.reduceLeDiff, Nat.reduceLT, Nat.le_refl, List.cons_append, List.nil_append, List.append_nil, List.map_cons, List.map_nil, List.replicate, List.getElem?_cons_zero, List.getElem?_cons_succ, List.getElem?_nil, List.set_cons_zero, List.set_cons_succ, if_true, if_false, ite_true, ite_false, and_self, and_true, true_and, reduceCtorEq, Bool.not_true, Bool.not_false, decide_true, decide_false, maxLen, f1, f2, attr_top, attr_bottom, Ratio2_ok, ne_eq, not_false_eq_true, hb, sb]
theorem lt_ok (h : Ch y c d) (sa : Sm a) (sb : Sm b) (sc : Sm c) (sd : Sm d) : m_Ratio___lt__ [rat a b, y] m = .ok (.bl (decide (a * d < c * b))) m := by
  have f1 : g_Ratio___lt__.fn = [m_checked] := rfl
  have f2 : g_Ratio___lt__.fld = flds := rfl
  unfold m_Ratio___lt__ ir_Ratio___lt__
  simp only [DI.Ev.ss_nil, DI.Ev.ss_cons, DI.Ev.st_try, DI.Ev.ee_0, DI.Ev.ee_1, DI.Ev.ee_2, DI.Ev.ee_3, DI.Ev.ee_4, DI.Ev.ee_5, DI.Ev.ee_6, DI.Ev.ee_7, DI.Ev.ee_8, DI.Ev.ee_9, DI.Ev.ee_10, DI.Ev.ee_11, DI.Ev.ee_12, DI.Ev.ee_13, DI.Ev.ee_14, DI.Ev.ee_15, DI.Ev.ee_16, DI.Ev.ee_17, DI.Ev.ee_18, DI.Ev.ee_19, DI.Ev.ee_20, DI.Ev.ee_21, DI.Ev.ee_22, DI.Ev.ee_23, DI.Ev.ee_24, DI.Ev.ee_25, DI.Ev.ee_26, DI.Ev.ee_27, DI.Ev.ee_28, DI.Ev.ee_29, DI.Ev.ee_30, DI.Ev.es_0, DI.Ev.es_1, DI.Ev.eo_0, DI.Ev.eo_1, DI.Ev.ec_0, DI.Ev.ec_1, DI.Ev.ei_0, DI.Ev.ei_1, DI.Ev.ei_2, DI.Ev.ei_3, DI.Ev.ei_4, DI.Ev.ei_5, DI.Ev.ei_6, DI.Ev.st_0, DI.Ev.st_1, DI.Ev.st_2, DI.Ev.st_3, DI.Ev.st_4, DI.Ev.st_5, DI.Ev.st_6, DI.Ev.st_7, DI.Ev.st_8, DI.Ev.st_9, DI.Ev.st_10, DI.Ev.st_11, DI.Ev.st_12, DI.Ev.st_13, DI.Ev.st_14, DI.Ev.st_17, DI.Ev.st_18, DI.Ev.st_19, DI.Ev.st_20, evH, DI.Ev.compX_nil, DI.Ev.compX_cons, DI.Ev.noX_ok, ↓reduceIte, DI.T.slots, DI.T.slotss, DI.wipeS, DI.Ev.bind_ok, DI.Ev.bind_exc, DI.Ev.out_ok, DI.Ev.out_exc, DI.Ev.seq_nx, DI.Ev.seq_ret, DI.Ev.seq_exc, DI.Ev.seq_brk, DI.Ev.seq_ct, DI.Ev.rnd_nx, DI.Ev.rnd_ct, DI.Ev.rnd_brk, DI.Ev.rnd_ret, DI.Ev.rnd_exc, DI.Ev.tr_nx, DI.Ev.tr_ret, DI.Ev.tr_exc, DI.Ev.fin_ret, DI.Ev.fin_nx, DI.Ev.fin_exc, DI.Ev.st_for, DI.Ev.forF_eq, DI.Ev.e_lcomp, DI.Ev.e_dcomp, DI.Ev.compF_eq, DI.Ev.compG_eq, DI.Ev.forX_cons, DI.Ev.forX_nil, DI.Ev.evF_eq, DI.Ev.nxO_some, DI.Ev.asg_var, DI.Ev.asg_tup, DI.Ev.asg_lst, DI.Ev.asgs_nil, DI.Ev.asgs_cons, DI.Ev.obind, DI.Ev.lift_some, DI.Ev.call_some, DI.Ev.bin_add, DI.Ev.bin_sub, DI.Ev.negD_int, DI.Ev.cmp_lt, DI.Ev.cmp_le, DI.Ev.cmp_gt, DI.Ev.cmp_ge, DI.Ev.cmp_eqI, DI.Ev.cmp_neI, DI.Ev.cmp_eqB, DI.Ev.cmp_neB, DI.Ev.cmp_eqT, splD, List.length_cons, List.length_nil, Nat.reduceAdd, Nat.reduceSub, Nat.reduceLeDiff, Nat.reduceLT, Nat.le_refl, List.cons_append, List.nil_append, List.append_nil, List.map_cons, List.map_nil, List.replicate, List.getElem?_cons_zero, List.getElem?_cons_succ, List.getElem?_nil, List.set_cons_zero, List.set_cons_succ, if_true, if_false, ite_true, ite_false, and_self, and_true, true_and, reduceCtorEq, Bool.not_true, Bool.not_false, decide_true, decide_false, maxLen, f1, f2, h.ch, attr_top, attr_bottom, bin_mul, mulOk_of, sa, sb, sc, sd]
theorem le_ok (h : Ch y c d) (sa : Sm a) (sb : Sm b) (sc : Sm c) (sd : Sm d) : m_Ratio___le__ [rat a b, y] m = .ok (.bl (decide (a * d ≤ c * b))) m := by
  have f1 : g_Ratio___le__.fn = [m_checked] := rfl
  have f2 : g_Ratio___le__.fld = flds := rfl
  unfold m_Ratio___le__ ir_Ratio___le__
  simp only [DI.Ev.ss_nil, DI.Ev.ss_cons, DI.Ev.st_try, DI.Ev.ee_0, DI.Ev.ee_1, DI.Ev.ee_2, DI.Ev.ee_3, DI.Ev.ee_4, DI.Ev.ee_5, DI.Ev.ee_6, DI.Ev.ee_7, DI.Ev.ee_8, DI.Ev.ee_9, DI.Ev.ee_10, DI.Ev.ee_11, DI.Ev.ee_12, DI.Ev.ee_13, DI.Ev.ee_14, DI.Ev.ee_15, DI.Ev.ee_16, DI.Ev.ee_17, DI.Ev.ee_18, DI.Ev.ee_19, DI.Ev.ee_20, DI.Ev.ee_21, DI.Ev.ee_22, DI.Ev.ee_23, DI.Ev.ee_24, DI.Ev.ee_25, DI.Ev.ee_26, DI.Ev.ee_27, DI.Ev.ee_28, DI.Ev.ee_29, DI.Ev.ee_30, DI.Ev.es_0, DI.Ev.es_1, DI.Ev.eo_0, DI.Ev.eo_1, DI.Ev.ec_0, DI.Ev.ec_1, DI.Ev.ei_0, DI.Ev.ei_1, DI.Ev.ei_2, DI.Ev.ei_3, DI.Ev.ei_4, DI.Ev.ei_5, DI.Ev.ei_6, DI.Ev.st_0, DI.Ev.st_1, DI.Ev.st_2, DI.Ev.st_3, DI.Ev.st_4, DI.Ev.st_5, DI.Ev.st_6, DI.Ev.st_7, DI.Ev.st_8, DI.Ev.st_9, DI.Ev.st_10, DI.Ev.st_11, DI.Ev.st_12, DI.Ev.st_13, DI.Ev.st_14, DI.Ev.st_17, DI.Ev.st_18, DI.Ev.st_19, DI.Ev.st_20, evH, DI.Ev.compX_nil, DI.Ev.compX_cons, DI.Ev.noX_ok, ↓reduceIte, DI.T.slots, DI.T.slotss, DI.wipeS, DI.Ev.bind_ok, DI.Ev.bind_exc, DI.Ev.out_ok, DI.Ev.out_exc, DI.Ev.seq_nx, DI.Ev.seq_ret, DI.Ev.seq_exc, DI.Ev.seq_brk, DI.Ev.seq_ct, DI.Ev.rnd_nx, DI.Ev.rnd_ct, DI.Ev.rnd_brk, DI.Ev.rnd_ret, DI.Ev.rnd_exc, DI.Ev.tr_nx, DI.Ev.tr_ret, DI.Ev.tr_exc, DI.Ev.fin_ret, DI.Ev.fin_nx, DI.Ev.fin_exc, DI.Ev.st_for, DI.Ev.forF_eq, DI.Ev.e_lcomp, DI.Ev.e_dcomp, DI.Ev.compF_eq, DI.Ev.compG_eq, DI.Ev.forX_cons, DI.Ev.forX_nil, DI.Ev.evF_eq, DI.Ev.nxO_some, DI.Ev.asg_var, DI.Ev.asg_tup, DI.Ev.asg_lst, DI.Ev.asgs_nil, DI.Ev.asgs_cons, DI.Ev.obind, DI.Ev.lift_some, DI.Ev.call_some, DI.Ev.bin_add, DI.Ev.bin_sub, DI.Ev.negD_int, DI.Ev.cmp_lt, DI.Ev.cmp_le, DI.Ev.cmp_gt, DI.Ev.cmp_ge, DI.Ev.cmp_eqI, DI.Ev.cmp_neI, DI.Ev.cmp_eqB, DI.Ev.cmp_neB, DI.Ev.cmp_eqT, splD, List.length_cons, List.length_nil, Nat.reduceAdd, Nat.reduceSub, Nat.reduceLeDiff, Nat.reduceLT, Nat.le_refl, List.cons_append, List.nil_append, List.append_nil, List.map_cons, List.map_nil, List.replicate, List.getElem?_cons_zero, List.getElem?_cons_succ, List.getElem?_nil, List.set_cons_zero, List.set_cons_succ, if_true, if_false, ite_true, ite_false, and_self, and_true, true_and, reduceCtorEq, Bool.not_true, Bool.not_false, decide_true, decide_false, maxLen, f1, f2, h.ch, attr_top, attr_bottom, bin_mul, mulOk_of, sa, sb, sc, sd]
theorem eq_ok (h : Ch y c d) : m_Ratio___eq__ [rat a b, y] m = .ok (.bl (decide (c = a ∧ d = b))) m := by
  have f1 : g_Ratio___eq__.fn = [m_parts] := rfl
  have f2 : g_Ratio___eq__.fld = flds := rfl
  unfold m_Ratio___eq__ ir_Ratio___eq__
  simp only [DI.Ev.ss_nil, DI.Ev.ss_cons, DI.Ev.st_try, DI.Ev.ee_0, DI.Ev.ee_1, DI.Ev.ee_2, DI.Ev.ee_3, DI.Ev.ee_4, DI.Ev.ee_5, DI.Ev.ee_6, DI.Ev.ee_7, DI.Ev.ee_8, DI.Ev.ee_9, DI.Ev.ee_10, DI.Ev.ee_11, DI.Ev.ee_12, DI.Ev.ee_13, DI.Ev.ee_14, DI.Ev.ee_15, DI.Ev.ee_16, DI.Ev.ee_17, DI.Ev.ee_18, DI.Ev.ee_19, DI.Ev.ee_20, DI.Ev.ee_21, DI.Ev.ee_22, DI.Ev.ee_23, DI.Ev.ee_24, DI.Ev.ee_25, DI.Ev.ee_26, DI.Ev.ee_27, DI.Ev.ee_28, DI.Ev.ee_29, DI.Ev.ee_30, DI.Ev.es_0, DI.Ev.es_1, DI.Ev.eo_0, DI.Ev.eo_1, DI.Ev.ec_0, DI.Ev.ec_1, DI.Ev.ei_0, DI.Ev.ei_1, DI.Ev.ei_2, DI.Ev.ei_3, DI.Ev.ei_4, DI.Ev.ei_5, DI.Ev.ei_6, DI.Ev.st_0, DI.Ev.st_1, DI.Ev.st_2, DI.Ev.st_3, DI.Ev.st_4, DI.Ev.st_5, DI.Ev.st_6, DI.Ev.st_7, DI.Ev.st_8, DI.Ev.st_9, DI.Ev.st_10, DI.Ev.st_11, DI.Ev.st_12, DI.Ev.st_13, DI.Ev.st_14, DI.Ev.st_17, DI.Ev.st_18, DI.Ev.st_19, DI.Ev.st_20, evH, DI.Ev.compX_nil, DI.Ev.compX_cons, DI.Ev.noX_ok, ↓reduceIte, DI.T.slots, DI.T.slotss, DI.wipeS, DI.Ev.bind_ok, DI.Ev.bind_exc, DI.Ev.out_ok, DI.Ev.out_exc, DI.Ev.seq_nx, DI.Ev.seq_ret, DI.Ev.seq_exc, DI.Ev.seq_brk, DI.Ev.seq_ct, DI.Ev.rnd_nx, DI.Ev.rnd_ct, DI.Ev.rnd_brk, DI.Ev.rnd_ret, DI.Ev.rnd_exc, DI.Ev.tr_nx, DI.Ev.tr_ret, DI.Ev.tr_exc, DI.Ev.fin_ret, DI.Ev.fin_nx, DI.Ev.fin_exc, DI.Ev.st_for, DI.Ev.forF_eq, DI.Ev.e_lcomp, DI.Ev.e_dcomp, DI.Ev.compF_eq, DI.Ev.compG_eq, DI.Ev.forX_cons, DI.Ev.forX_nil, DI.Ev.evF_eq, DI.Ev.nxO_some, DI.Ev.asg_var, DI.Ev.asg_tup, DI.Ev.asg_lst, DI.Ev.asgs_nil, DI.Ev.asgs_cons, DI.Ev.obind, DI.Ev.lift_some, DI.Ev.call_some, DI.Ev.bin_add, DI.Ev.bin_sub, DI.Ev.negD_int, DI.Ev.cmp_lt, DI.Ev.cmp_le, DI.Ev.cmp_gt, DI.Ev.cmp_ge, DI.Ev.cmp_eqI, DI.Ev.cmp_neI, DI.Ev.cmp_eqB, DI.Ev.cmp_neB, DI.Ev.cmp_eqT, splD, List.length_cons, List.length_nil, Nat.reduceAdd, Nat.reduceSub, Nat.reduceLeDiff, Nat.reduceLT, Nat.le_refl, List.cons_append, List.nil_append, List.append_nil, List.map_cons, List.map_nil, List.replicate, List.getElem?_cons_zero, List.getElem?_cons_succ, List.getElem?_nil, List.set_cons_zero, List.set_cons_succ, if_true, if_false, ite_true, ite_false, and_self, and_true, true_and, reduceCtorEq, Bool.not_true, Bool.not_false, decide_true, decide_false, maxLen, f1, f2, h.pa, attr_top, attr_bottom]
end K56
end

section
set_option linter.all false
set_option exponentiation.threshold 100000
set_option maxRecDepth 100000
set_option maxHeartbeats 1000000
namespace K56
open PySem L2 DI
open PyProof.Rows hiding St
open DI.Ev
section
variable {g : G} {σ : Sl} {m : MS}
theorem bin_powZ {i j : Int} (h : 0 ≤ j ∧ j ≤ 100 ∧ i.natAbs < 1267650600228229401496703205376) : binD g .pow (.int i) (.int j) m = .ok (.int (i ^ j.toNat)) m := by
  have : 0 ≤ j ∧ j ≤ 100 ∧ i.natAbs < 2 ^ 1000 := ⟨h.1, h.2.1, Nat.lt_of_lt_of_le h.2.2 (by decide)⟩
  simp only [binD, intBin, if_pos this]
theorem p18 : binD g .pow (.int 10) (.int 18) m = .ok (.int 1000000000000000000) m := by rw [bin_powZ (by decide)]; rfl
theorem p8 : binD g .pow (.int 10) (.int 8) m = .ok (.int 100000000) m := by rw [bin_powZ (by decide)]; rfl
theorem p30 : binD g .pow (.int 10) (.int 30) m = .ok (.int 1000000000000000000000000000000) m := by rw [bin_powZ (by decide)]; rfl
theorem bin_pow3 {i : Int} (h : i.natAbs < 1267650600228229401496703205376) : binD g .pow (.int i) (.int 3) m = .ok (.int (i ^ 3)) m := by rw [bin_powZ ⟨by decide, by decide, h⟩]; rfl
theorem ixN_0 (n : Nat) : ixN (n + 1) 0 = some 0 := by
  have : (0 : Int) < (n : Int) + 1 := by omega
  simp [ixN, this]
theorem ixN_1 (n : Nat) : ixN (n + 2) 1 = some 1 := by
  have : (1 : Int) < (n : Int) + 2 := by omega
  simp [ixN, this]
theorem set_0 {i : Nat} {x : D} {xs : List D} {d : D} (h : m[i]? = some (.lst (x :: xs))) : cellS (.ref i) σ m (fun c => setL c (.int 0) d) = .nx σ (m.set i (.lst (d :: xs))) := by
  simp only [cellS, h, setL, List.length_cons, ixN_0, Option.map_some, List.set_cons_zero]
theorem set_1 {i : Nat} {x y : D} {xs : List D} {d : D} (h : m[i]? = some (.lst (x :: y :: xs))) : cellS (.ref i) σ m (fun c => setL c (.int 1) d) = .nx σ (m.set i (.lst (x :: d :: xs))) := by
  simp only [cellS, h, setL, List.length_cons, ixN_1, Option.map_some, List.set_cons_zero, List.set_cons_succ]
theorem bi_abs (i : Int) : biD .abs [.int i] m = some (.int (if i < 0 then -i else i)) := rfl
theorem bi_int (i : Int) : biD .int [.int i] m = some (.int i) := rfl
theorem bi_max (i j : Int) : biD .max [.int i, .int j] m = some (.int (if j > i then j else i)) := rfl
theorem bi_min (i j : Int) : biD .min [.int i, .int j] m = some (.int (if j < i then j else i)) := rfl
theorem bi_len (xs : List D) : biD .len [.lst xs] m = some (.int xs.length) := rfl
theorem atI_0 (a : D) (xs : List D) : atI (a :: xs) 0 = some a := by
  have : (0 : Int) < (xs.length : Int) + 1 := by omega
  simp [atI, ixN, this]
theorem atI_1 (a b : D) (xs : List D) : atI (a :: b :: xs) 1 = some b := by
  have : (1 : Int) < (xs.length : Int) + 1 + 1 := by omega
  simp [atI, ixN, this]
theorem atI_2 (a b c : D) (xs : List D) : atI (a :: b :: c :: xs) 2 = some c := by
  have : (2 : Int) < (xs.length : Int) + 1 + 1 + 1 := by omega
  simp [atI, ixN, this]
theorem idx_lst (xs : List D) (j : Int) : idxD (.lst xs) (.int j) m = atI xs j := rfl
theorem idx_tup (xs : List D) (j : Int) : idxD (.tup xs) (.int j) m = atI xs j := rfl
theorem idx_ref {i : Nat} {xs : List D} (h : m[i]? = some (.lst xs)) (j : Int) : idxD (.ref i) (.int j) m = atI xs j := by
  simp only [idxD, inner, h]
/-- a value of a list -/
theorem atI_mem {xs : List D} {j : Int} (h : 0 ≤ j) (h2 : j < xs.length) : ∃ x, x ∈ xs ∧ atI xs j = some x := by
  have e : ixN xs.length j = some j.toNat := by
    unfold ixN
    simp only [h, h2]
    simp
    try omega
  refine ⟨xs[j.toNat]'(by omega), List.getElem_mem _, ?_⟩
  simp only [atI, e]
  simp
  try omega
end
/-- the box of drawn numbers -/
structure Bx (m : MS) (i : Nat) (w c q : Int) : Prop where
  at_ : m[i]? = some (.lst [.int w, .int c, .int q])
  w0 : 0 ≤ w
  c0 : 0 ≤ c
  c1 : c ≤ 1000000
  q0 : 0 ≤ q
  q1 : q ≤ 10000000
theorem Bx.lt {m : MS} {i : Nat} {w c q : Int} (b : Bx m i w c q) : i < m.length := by
  have := b.at_
  rw [List.getElem?_eq_some_iff] at this
  exact this.1
theorem Bx.set {m : MS} {i : Nat} {w c q w' c' : Int} (b : Bx m i w c q) (h1 : 0 ≤ w') (h2 : 0 ≤ c') (h3 : c' ≤ 1000000) : Bx (m.set i (.lst [.int w', .int c', .int q])) i w' c' q :=
  ⟨by rw [List.getElem?_set_self b.lt], h1, h2, h3, b.q0, b.q1⟩
theorem mulOk_lit {i j : Int} (h : i.natAbs < 1267650600228229401496703205376) (h2 : j.natAbs < 1267650600228229401496703205376) : mulOk i j := by
  have e : (1267650600228229401496703205376 : Nat) ≤ 2 ^ 2000 := by decide +kernel
  exact mulOk_of (Nat.lt_of_lt_of_le h e) (Nat.lt_of_lt_of_le h2 e)
theorem fmod_bd (a : Int) {k : Int} (h : 0 < k) : 0 ≤ a.fmod k ∧ a.fmod k < k := by
  rw [Int.fmod_eq_emod_of_nonneg _ (by omega)]
  exact ⟨Int.emod_nonneg _ (by omega), Int.emod_lt_of_pos _ h⟩
theorem fdiv_nn {a k : Int} (h : 0 ≤ a) (hk : 0 < k) : 0 ≤ a.fdiv k := by
  rw [Int.fdiv_eq_ediv_of_nonneg _ (by omega)]
  exact Int.ediv_nonneg h (by omega)
theorem take_ok {m : MS} {i : Nat} {w c q k : Int} (b : Bx m i w c q) (hc : c ≤ 900000) (hk : 0 < k) (hs : Sm k) :
    ∃ d m' w' c', m__law_take [.ref i, .int k] m = .ok (.int d) m' ∧ 0 ≤ d ∧ d < k ∧ Bx m' i w' c' q ∧ c' ≤ c + 1 := by
  have hk0 : k ≠ 0 := by omega
  have b0 := b.w0
  have b1 := b.c0
  have b3 := b.q0
  have b4 := b.q1
  by_cases hw : 1000000000000000000 ≤ w
  · refine ⟨w.fmod k, _, w.fdiv k, c, ?_, (fmod_bd w hk).1, (fmod_bd w hk).2, b.set (fdiv_nn b.w0 hk) b.c0 b.c1, by omega⟩
    unfold m__law_take ir__law_take
    simp only [DI.Ev.ss_nil, DI.Ev.ss_cons, DI.Ev.st_try, DI.Ev.ee_0, DI.Ev.ee_1, DI.Ev.ee_2, DI.Ev.ee_3, DI.Ev.ee_4, DI.Ev.ee_5, DI.Ev.ee_6, DI.Ev.ee_7, DI.Ev.ee_8, DI.Ev.ee_9, DI.Ev.ee_10, DI.Ev.ee_11, DI.Ev.ee_12, DI.Ev.ee_13, DI.Ev.ee_14, DI.Ev.ee_15, DI.Ev.ee_16, DI.Ev.ee_17, DI.Ev.ee_18, DI.Ev.ee_19, DI.Ev.ee_20, DI.Ev.ee_21, DI.Ev.ee_22, DI.Ev.ee_23, DI.Ev.ee_24, DI.Ev.ee_25, DI.Ev.ee_26, DI.Ev.ee_27, DI.Ev.ee_28, DI.Ev.ee_29, DI.Ev.ee_30, DI.Ev.es_0, DI.Ev.es_1, DI.Ev.eo_0, DI.Ev.eo_1, DI.Ev.ec_0, DI.Ev.ec_1, DI.Ev.ei_0, DI.Ev.ei_1, DI.Ev.ei_2, DI.Ev.ei_3, DI.Ev.ei_4, DI.Ev.ei_5, DI.Ev.ei_6, DI.Ev.st_0, DI.Ev.st_1, DI.Ev.st_2, DI.Ev.st_3, DI.Ev.st_4, DI.Ev.st_5, DI.Ev.st_6, DI.Ev.st_7, DI.Ev.st_8, DI.Ev.st_9, DI.Ev.st_10, DI.Ev.st_11, DI.Ev.st_12, DI.Ev.st_13, DI.Ev.st_14, DI.Ev.st_17, DI.Ev.st_18, DI.Ev.st_19, DI.Ev.st_20, evH, DI.Ev.compX_nil, DI.Ev.compX_cons, DI.Ev.noX_ok, ↓reduceIte, DI.T.slots, DI.T.slotss, DI.wipeS, DI.Ev.bind_ok, DI.Ev.bind_exc, DI.Ev.out_ok, DI.Ev.out_exc, DI.Ev.seq_nx, DI.Ev.seq_ret, DI.Ev.seq_exc, DI.Ev.seq_brk, DI.Ev.seq_ct, DI.Ev.rnd_nx, DI.Ev.rnd_ct, DI.Ev.rnd_brk, DI.Ev.rnd_ret, DI.Ev.rnd_exc, DI.Ev.tr_nx, DI.Ev.tr_ret, DI.Ev.tr_exc, DI.Ev.fin_ret, DI.Ev.fin_nx, DI.Ev.fin_exc, DI.Ev.st_for, DI.Ev.forF_eq, DI.Ev.e_lcomp, DI.Ev.e_dcomp, DI.Ev.compF_eq, DI.Ev.compG_eq, DI.Ev.forX_cons, DI.Ev.forX_nil, DI.Ev.evF_eq, DI.Ev.nxO_some, DI.Ev.asg_var, DI.Ev.asg_tup, DI.Ev.asg_lst, DI.Ev.asgs_nil, DI.Ev.asgs_cons, DI.Ev.obind, DI.Ev.lift_some, DI.Ev.call_some, DI.Ev.bin_add, DI.Ev.bin_sub, DI.Ev.negD_int, DI.Ev.cmp_lt, DI.Ev.cmp_le, DI.Ev.cmp_gt, DI.Ev.cmp_ge, DI.Ev.cmp_eqI, DI.Ev.cmp_neI, DI.Ev.cmp_eqB, DI.Ev.cmp_neB, DI.Ev.cmp_eqT, splD, List.length_cons, List.length_nil, Nat.reduceAdd, Nat.reduceSub, Nat.reduceLeDiff, Nat.reduceLT, Nat.le_refl, List.cons_append, List.nil_append, List.append_nil, List.map_cons, List.map_nil, List.replicate, List.getElem?_cons_zero, List.getElem?_cons_succ, List.getElem?_nil, List.set_cons_zero, List.set_cons_succ, if_true, if_false, ite_true, ite_false, and_self, and_true, true_and, reduceCtorEq, Bool.not_true, Bool.not_false, decide_true, decide_false, maxLen, idx_ref b.at_, set_0 b.at_, p18, hw, bi_int, bin_mod hk0, bin_fdiv (divOk_of hk0 hs), atI_0]
  · have hm : mulOk (w + 7) 69069 := mulOk_lit (by omega) (by decide)
    have hm2 : mulOk (c + 1) 40692 := mulOk_lit (by omega) (by decide)
    have hm3 : mulOk (c + 1) 17389 := mulOk_lit (by omega) (by decide)
    have B2 := b.set b.w0 (by omega : (0 : Int) ≤ c + 1) (by omega)
    have hp1 : ((w + 7) * 69069 + (c + 1) * 40692 + q).natAbs < 1267650600228229401496703205376 := by omega
    have hx := fmod_bd (((w + 7) * 69069 + (c + 1) * 40692 + q) ^ 3) (k := 2147483647) (by decide)
    have hp2 : ((((w + 7) * 69069 + (c + 1) * 40692 + q) ^ 3).fmod 2147483647 + (c + 1) * 17389).natAbs < 1267650600228229401496703205376 := by omega
    have h64 : divOk 64 := divOk_of (by decide) (Nat.lt_of_lt_of_le (by decide : (64 : Int).natAbs < 2 ^ 10) (Nat.pow_le_pow_right (by decide) (by decide)))
    refine ⟨(Int.fdiv (Int.fmod ((Int.fmod (((w + 7) * 69069 + (c + 1) * 40692 + q) ^ 3) 2147483647 + (c + 1) * 17389) ^ 3) 2147483399) 64).fmod k, _, w, c + 1, ?_, (fmod_bd _ hk).1, (fmod_bd _ hk).2, B2, by omega⟩
    unfold m__law_take ir__law_take
    simp only [DI.Ev.ss_nil, DI.Ev.ss_cons, DI.Ev.st_try, DI.Ev.ee_0, DI.Ev.ee_1, DI.Ev.ee_2, DI.Ev.ee_3, DI.Ev.ee_4, DI.Ev.ee_5, DI.Ev.ee_6, DI.Ev.ee_7, DI.Ev.ee_8, DI.Ev.ee_9, DI.Ev.ee_10, DI.Ev.ee_11, DI.Ev.ee_12, DI.Ev.ee_13, DI.Ev.ee_14, DI.Ev.ee_15, DI.Ev.ee_16, DI.Ev.ee_17, DI.Ev.ee_18, DI.Ev.ee_19, DI.Ev.ee_20, DI.Ev.ee_21, DI.Ev.ee_22, DI.Ev.ee_23, DI.Ev.ee_24, DI.Ev.ee_25, DI.Ev.ee_26, DI.Ev.ee_27, DI.Ev.ee_28, DI.Ev.ee_29, DI.Ev.ee_30, DI.Ev.es_0, DI.Ev.es_1, DI.Ev.eo_0, DI.Ev.eo_1, DI.Ev.ec_0, DI.Ev.ec_1, DI.Ev.ei_0, DI.Ev.ei_1, DI.Ev.ei_2, DI.Ev.ei_3, DI.Ev.ei_4, DI.Ev.ei_5, DI.Ev.ei_6, DI.Ev.st_0, DI.Ev.st_1, DI.Ev.st_2, DI.Ev.st_3, DI.Ev.st_4, DI.Ev.st_5, DI.Ev.st_6, DI.Ev.st_7, DI.Ev.st_8, DI.Ev.st_9, DI.Ev.st_10, DI.Ev.st_11, DI.Ev.st_12, DI.Ev.st_13, DI.Ev.st_14, DI.Ev.st_17, DI.Ev.st_18, DI.Ev.st_19, DI.Ev.st_20, evH, DI.Ev.compX_nil, DI.Ev.compX_cons, DI.Ev.noX_ok, ↓reduceIte, DI.T.slots, DI.T.slotss, DI.wipeS, DI.Ev.bind_ok, DI.Ev.bind_exc, DI.Ev.out_ok, DI.Ev.out_exc, DI.Ev.seq_nx, DI.Ev.seq_ret, DI.Ev.seq_exc, DI.Ev.seq_brk, DI.Ev.seq_ct, DI.Ev.rnd_nx, DI.Ev.rnd_ct, DI.Ev.rnd_brk, DI.Ev.rnd_ret, DI.Ev.rnd_exc, DI.Ev.tr_nx, DI.Ev.tr_ret, DI.Ev.tr_exc, DI.Ev.fin_ret, DI.Ev.fin_nx, DI.Ev.fin_exc, DI.Ev.st_for, DI.Ev.forF_eq, DI.Ev.e_lcomp, DI.Ev.e_dcomp, DI.Ev.compF_eq, DI.Ev.compG_eq, DI.Ev.forX_cons, DI.Ev.forX_nil, DI.Ev.evF_eq, DI.Ev.nxO_some, DI.Ev.asg_var, DI.Ev.asg_tup, DI.Ev.asg_lst, DI.Ev.asgs_nil, DI.Ev.asgs_cons, DI.Ev.obind, DI.Ev.lift_some, DI.Ev.call_some, DI.Ev.bin_add, DI.Ev.bin_sub, DI.Ev.negD_int, DI.Ev.cmp_lt, DI.Ev.cmp_le, DI.Ev.cmp_gt, DI.Ev.cmp_ge, DI.Ev.cmp_eqI, DI.Ev.cmp_neI, DI.Ev.cmp_eqB, DI.Ev.cmp_neB, DI.Ev.cmp_eqT, splD, List.length_cons, List.length_nil, Nat.reduceAdd, Nat.reduceSub, Nat.reduceLeDiff, Nat.reduceLT, Nat.le_refl, List.cons_append, List.nil_append, List.append_nil, List.map_cons, List.map_nil, List.replicate, List.getElem?_cons_zero, List.getElem?_cons_succ, List.getElem?_nil, List.set_cons_zero, List.set_cons_succ, if_true, if_false, ite_true, ite_false, and_self, and_true, true_and, reduceCtorEq, Bool.not_true, Bool.not_false, decide_true, decide_false, maxLen, idx_ref b.at_, set_1 b.at_, p18, hw, atI_0, atI_1, bi_int]
    simp only [DI.Ev.ss_nil, DI.Ev.ss_cons, DI.Ev.st_try, DI.Ev.ee_0, DI.Ev.ee_1, DI.Ev.ee_2, DI.Ev.ee_3, DI.Ev.ee_4, DI.Ev.ee_5, DI.Ev.ee_6, DI.Ev.ee_7, DI.Ev.ee_8, DI.Ev.ee_9, DI.Ev.ee_10, DI.Ev.ee_11, DI.Ev.ee_12, DI.Ev.ee_13, DI.Ev.ee_14, DI.Ev.ee_15, DI.Ev.ee_16, DI.Ev.ee_17, DI.Ev.ee_18, DI.Ev.ee_19, DI.Ev.ee_20, DI.Ev.ee_21, DI.Ev.ee_22, DI.Ev.ee_23, DI.Ev.ee_24, DI.Ev.ee_25, DI.Ev.ee_26, DI.Ev.ee_27, DI.Ev.ee_28, DI.Ev.ee_29, DI.Ev.ee_30, DI.Ev.es_0, DI.Ev.es_1, DI.Ev.eo_0, DI.Ev.eo_1, DI.Ev.ec_0, DI.Ev.ec_1, DI.Ev.ei_0, DI.Ev.ei_1, DI.Ev.ei_2, DI.Ev.ei_3, DI.Ev.ei_4, DI.Ev.ei_5, DI.Ev.ei_6, DI.Ev.st_0, DI.Ev.st_1, DI.Ev.st_2, DI.Ev.st_3, DI.Ev.st_4, DI.Ev.st_5, DI.Ev.st_6, DI.Ev.st_7, DI.Ev.st_8, DI.Ev.st_9, DI.Ev.st_10, DI.Ev.st_11, DI.Ev.st_12, DI.Ev.st_13, DI.Ev.st_14, DI.Ev.st_17, DI.Ev.st_18, DI.Ev.st_19, DI.Ev.st_20, evH, DI.Ev.compX_nil, DI.Ev.compX_cons, DI.Ev.noX_ok, ↓reduceIte, DI.T.slots, DI.T.slotss, DI.wipeS, DI.Ev.bind_ok, DI.Ev.bind_exc, DI.Ev.out_ok, DI.Ev.out_exc, DI.Ev.seq_nx, DI.Ev.seq_ret, DI.Ev.seq_exc, DI.Ev.seq_brk, DI.Ev.seq_ct, DI.Ev.rnd_nx, DI.Ev.rnd_ct, DI.Ev.rnd_brk, DI.Ev.rnd_ret, DI.Ev.rnd_exc, DI.Ev.tr_nx, DI.Ev.tr_ret, DI.Ev.tr_exc, DI.Ev.fin_ret, DI.Ev.fin_nx, DI.Ev.fin_exc, DI.Ev.st_for, DI.Ev.forF_eq, DI.Ev.e_lcomp, DI.Ev.e_dcomp, DI.Ev.compF_eq, DI.Ev.compG_eq, DI.Ev.forX_cons, DI.Ev.forX_nil, DI.Ev.evF_eq, DI.Ev.nxO_some, DI.Ev.asg_var, DI.Ev.asg_tup, DI.Ev.asg_lst, DI.Ev.asgs_nil, DI.Ev.asgs_cons, DI.Ev.obind, DI.Ev.lift_some, DI.Ev.call_some, DI.Ev.bin_add, DI.Ev.bin_sub, DI.Ev.negD_int, DI.Ev.cmp_lt, DI.Ev.cmp_le, DI.Ev.cmp_gt, DI.Ev.cmp_ge, DI.Ev.cmp_eqI, DI.Ev.cmp_neI, DI.Ev.cmp_eqB, DI.Ev.cmp_neB, DI.Ev.cmp_eqT, splD, List.length_cons, List.length_nil, Nat.reduceAdd, Nat.reduceSub, Nat.reduceLeDiff, Nat.reduceLT, Nat.le_refl, List.cons_append, List.nil_append, List.append_nil, List.map_cons, List.map_nil, List.replicate, List.getElem?_cons_zero, List.getElem?_cons_succ, List.getElem?_nil, List.set_cons_zero, List.set_cons_succ, if_true, if_false, ite_true, ite_false, and_self, and_true, true_and, reduceCtorEq, Bool.not_true, Bool.not_false, decide_true, decide_false, maxLen, idx_ref B2.at_, atI_0, atI_1, atI_2, bin_mul hm, bin_mul hm2, bin_mul hm3, bi_int, bin_pow3 hp1, bin_pow3 hp2, bin_fdiv h64, bin_mod hk0, bin_mod (show (2147483647 : Int) ≠ 0 by decide), bin_mod (show (2147483399 : Int) ≠ 0 by decide)]
end K56
end

section
set_option linter.all false
set_option exponentiation.threshold 100000
set_option maxRecDepth 100000
set_option maxHeartbeats 1000000
namespace K56
open PySem L2 DI
open PyProof.Rows hiding St
open DI.Ev
def st4 (u v a b : Int) : Sl := [some (.sh (.int u)), some (.sh (.int v)), some (.sh (.int a)), some (.sh (.int b))]
noncomputable def cF : Sl → MS → Res D := fun σ m => evE g__law_frac (.cmp .gt (.var 3) (.con (.int 0))) σ m
noncomputable def bF : Sl → MS → Out := fun σ m => evSs g__law_frac [(.asg (.tup [(.var 2), (.var 3)]) (.tup [(.var 3), (.bin .mod (.var 2) (.var 3))]))] σ m
theorem cF_eq (u v a b : Int) (m : MS) : cF (st4 u v a b) m = .ok (.bl (decide (0 < b))) m := by
  unfold cF st4
  simp only [DI.Ev.ss_nil, DI.Ev.ss_cons, DI.Ev.st_try, DI.Ev.ee_0, DI.Ev.ee_1, DI.Ev.ee_2, DI.Ev.ee_3, DI.Ev.ee_4, DI.Ev.ee_5, DI.Ev.ee_6, DI.Ev.ee_7, DI.Ev.ee_8, DI.Ev.ee_9, DI.Ev.ee_10, DI.Ev.ee_11, DI.Ev.ee_12, DI.Ev.ee_13, DI.Ev.ee_14, DI.Ev.ee_15, DI.Ev.ee_16, DI.Ev.ee_17, DI.Ev.ee_18, DI.Ev.ee_19, DI.Ev.ee_20, DI.Ev.ee_21, DI.Ev.ee_22, DI.Ev.ee_23, DI.Ev.ee_24, DI.Ev.ee_25, DI.Ev.ee_26, DI.Ev.ee_27, DI.Ev.ee_28, DI.Ev.ee_29, DI.Ev.ee_30, DI.Ev.es_0, DI.Ev.es_1, DI.Ev.eo_0, DI.Ev.eo_1, DI.Ev.ec_0, DI.Ev.ec_1, DI.Ev.ei_0, DI.Ev.ei_1, DI.Ev.ei_2, DI.Ev.ei_3, DI.Ev.ei_4, DI.Ev.ei_5, DI.Ev.ei_6, DI.Ev.st_0, DI.Ev.st_1, DI.Ev.st_2, DI.Ev.st_3, DI.Ev.st_4, DI.Ev.st_5, DI.Ev.st_6, DI.Ev.st_7, DI.Ev.st_8, DI.Ev.st_9, DI.Ev.st_10, DI.Ev.st_11, DI.Ev.st_12, DI.Ev.st_13, DI.Ev.st_14, DI.Ev.st_17, DI.Ev.st_18, DI.Ev.st_19, DI.Ev.st_20, evH, DI.Ev.compX_nil, DI.Ev.compX_cons, DI.Ev.noX_ok, ↓reduceIte, DI.T.slots, DI.T.slotss, DI.wipeS, DI.Ev.bind_ok, DI.Ev.bind_exc, DI.Ev.out_ok, DI.Ev.out_exc, DI.Ev.seq_nx, DI.Ev.seq_ret, DI.Ev.seq_exc, DI.Ev.seq_brk, DI.Ev.seq_ct, DI.Ev.rnd_nx, DI.Ev.rnd_ct, DI.Ev.rnd_brk, DI.Ev.rnd_ret, DI.Ev.rnd_exc, DI.Ev.tr_nx, DI.Ev.tr_ret, DI.Ev.tr_exc, DI.Ev.fin_ret, DI.Ev.fin_nx, DI.Ev.fin_exc, DI.Ev.st_for, DI.Ev.forF_eq, DI.Ev.e_lcomp, DI.Ev.e_dcomp, DI.Ev.compF_eq, DI.Ev.compG_eq, DI.Ev.forX_cons, DI.Ev.forX_nil, DI.Ev.evF_eq, DI.Ev.nxO_some, DI.Ev.asg_var, DI.Ev.asg_tup, DI.Ev.asg_lst, DI.Ev.asgs_nil, DI.Ev.asgs_cons, DI.Ev.obind, DI.Ev.lift_some, DI.Ev.call_some, DI.Ev.bin_add, DI.Ev.bin_sub, DI.Ev.negD_int, DI.Ev.cmp_lt, DI.Ev.cmp_le, DI.Ev.cmp_gt, DI.Ev.cmp_ge, DI.Ev.cmp_eqI, DI.Ev.cmp_neI, DI.Ev.cmp_eqB, DI.Ev.cmp_neB, DI.Ev.cmp_eqT, splD, List.length_cons, List.length_nil, Nat.reduceAdd, Nat.reduceSub, Nat.reduceLeDiff, Nat.reduceLT, Nat.le_refl, List.cons_append, List.nil_append, List.append_nil, List.map_cons, List.map_nil, List.replicate, List.getElem?_cons_zero, List.getElem?_cons_succ, List.getElem?_nil, List.set_cons_zero, List.set_cons_succ, if_true, if_false, ite_true, ite_false, and_self, and_true, true_and, reduceCtorEq, Bool.not_true, Bool.not_false, decide_true, decide_false, maxLen]
theorem bF_eq (u v a b : Int) (m : MS) (h : b ≠ 0) : bF (st4 u v a b) m = .nx (st4 u v b (a.fmod b)) m := by
  unfold bF st4
  simp only [DI.Ev.ss_nil, DI.Ev.ss_cons, DI.Ev.st_try, DI.Ev.ee_0, DI.Ev.ee_1, DI.Ev.ee_2, DI.Ev.ee_3, DI.Ev.ee_4, DI.Ev.ee_5, DI.Ev.ee_6, DI.Ev.ee_7, DI.Ev.ee_8, DI.Ev.ee_9, DI.Ev.ee_10, DI.Ev.ee_11, DI.Ev.ee_12, DI.Ev.ee_13, DI.Ev.ee_14, DI.Ev.ee_15, DI.Ev.ee_16, DI.Ev.ee_17, DI.Ev.ee_18, DI.Ev.ee_19, DI.Ev.ee_20, DI.Ev.ee_21, DI.Ev.ee_22, DI.Ev.ee_23, DI.Ev.ee_24, DI.Ev.ee_25, DI.Ev.ee_26, DI.Ev.ee_27, DI.Ev.ee_28, DI.Ev.ee_29, DI.Ev.ee_30, DI.Ev.es_0, DI.Ev.es_1, DI.Ev.eo_0, DI.Ev.eo_1, DI.Ev.ec_0, DI.Ev.ec_1, DI.Ev.ei_0, DI.Ev.ei_1, DI.Ev.ei_2, DI.Ev.ei_3, DI.Ev.ei_4, DI.Ev.ei_5, DI.Ev.ei_6, DI.Ev.st_0, DI.Ev.st_1, DI.Ev.st_2, DI.Ev.st_3, DI.Ev.st_4, DI.Ev.st_5, DI.Ev.st_6, DI.Ev.st_7, DI.Ev.st_8, DI.Ev.st_9, DI.Ev.st_10, DI.Ev.st_11, DI.Ev.st_12, DI.Ev.st_13, DI.Ev.st_14, DI.Ev.st_17, DI.Ev.st_18, DI.Ev.st_19, DI.Ev.st_20, evH, DI.Ev.compX_nil, DI.Ev.compX_cons, DI.Ev.noX_ok, ↓reduceIte, DI.T.slots, DI.T.slotss, DI.wipeS, DI.Ev.bind_ok, DI.Ev.bind_exc, DI.Ev.out_ok, DI.Ev.out_exc, DI.Ev.seq_nx, DI.Ev.seq_ret, DI.Ev.seq_exc, DI.Ev.seq_brk, DI.Ev.seq_ct, DI.Ev.rnd_nx, DI.Ev.rnd_ct, DI.Ev.rnd_brk, DI.Ev.rnd_ret, DI.Ev.rnd_exc, DI.Ev.tr_nx, DI.Ev.tr_ret, DI.Ev.tr_exc, DI.Ev.fin_ret, DI.Ev.fin_nx, DI.Ev.fin_exc, DI.Ev.st_for, DI.Ev.forF_eq, DI.Ev.e_lcomp, DI.Ev.e_dcomp, DI.Ev.compF_eq, DI.Ev.compG_eq, DI.Ev.forX_cons, DI.Ev.forX_nil, DI.Ev.evF_eq, DI.Ev.nxO_some, DI.Ev.asg_var, DI.Ev.asg_tup, DI.Ev.asg_lst, DI.Ev.asgs_nil, DI.Ev.asgs_cons, DI.Ev.obind, DI.Ev.lift_some, DI.Ev.call_some, DI.Ev.bin_add, DI.Ev.bin_sub, DI.Ev.negD_int, DI.Ev.cmp_lt, DI.Ev.cmp_le, DI.Ev.cmp_gt, DI.Ev.cmp_ge, DI.Ev.cmp_eqI, DI.Ev.cmp_neI, DI.Ev.cmp_eqB, DI.Ev.cmp_neB, DI.Ev.cmp_eqT, splD, List.length_cons, List.length_nil, Nat.reduceAdd, Nat.reduceSub, Nat.reduceLeDiff, Nat.reduceLT, Nat.le_refl, List.cons_append, List.nil_append, List.append_nil, List.map_cons, List.map_nil, List.replicate, List.getElem?_cons_zero, List.getElem?_cons_succ, List.getElem?_nil, List.set_cons_zero, List.set_cons_succ, if_true, if_false, ite_true, ite_false, and_self, and_true, true_and, reduceCtorEq, Bool.not_true, Bool.not_false, decide_true, decide_false, maxLen, bin_mod h]
theorem loopF (u v : Int) (m : MS) : ∀ (n : Nat) (a b : Int), 0 ≤ a → 0 ≤ b → b.natAbs < n → whlN cF bF n (st4 u v a b) m = .nx (st4 u v (Int.gcd a b) 0) m := by
  intro n
  induction n with
  | zero => intro a b _ _ h; omega
  | succ n ih =>
    intro a b ha hb h
    by_cases hz : b = 0
    · subst hz
      have : ((Int.gcd a 0 : Nat) : Int) = a := by rw [Int.gcd_zero_right]; omega
      rw [this]
      simp only [whlN, cF_eq, Int.lt_irrefl, decide_false, whl_ok]
    · have hp : 0 < b := by omega
      have h2 := ih b (a.fmod b) (by omega) (fmod_bd a hp).1 (by have := fmod_lt a b hz; omega)
      rw [gcd_step a b hz] at h2
      simp only [whlN, cF_eq, hp, decide_true, whl_ok, bF_eq u v a b m hz, h2]
theorem frac_ok {a b : Int} (h : b ≠ 0) (hs : Sm b) (m : MS) : m__law_frac [.int a, .int b] m = .ok (.tup [.int (nt a b), .int (nb a b)]) m := by
  have hd : divOk (dv a b) := divOk_of (dv_ne h) (Nat.lt_of_le_of_lt (dv_le h) hs)
  have h3 := whl_eq (loopF a b m ((if b < 0 then -b else b).natAbs + 1) (if a < 0 then -a else a) (if b < 0 then -b else b) (by split <;> omega) (by split <;> omega) (Nat.lt_succ_self _)) (fun z => nomatch z)
  have hg : Int.gcd (if a < 0 then -a else a) (if b < 0 then -b else b) = Int.gcd a b := by
    split <;> split <;> simp
  rw [hg] at h3
  have e : evS g__law_frac (.whl (.cmp .gt (.var 3) (.con (.int 0))) [(.asg (.tup [(.var 2), (.var 3)]) (.tup [(.var 3), (.bin .mod (.var 2) (.var 3))]))]) (st4 a b (if a < 0 then -a else a) (if b < 0 then -b else b)) m = .nx (st4 a b (Int.gcd a b) 0) m := by
    rw [← h3]
    simp only [evS]
    rfl
  unfold m__law_frac ir__law_frac
  unfold st4 at e
  by_cases z : b < 0
  · have : dv a b = 0 - (Int.gcd a b : Int) := by unfold dv; rw [if_neg (by omega)]; omega
    rw [this] at hd
    unfold nt nb
    rw [this]
    simp only [ss_cons, evF_eq, List.length_cons, List.length_nil, Nat.reduceAdd, if_true, List.map_cons, List.map_nil, Nat.reduceSub, List.replicate, List.cons_append, List.nil_append]
    rw [show evS g__law_frac (.asg (.tup [(.var 2), (.var 3)]) (.tup [(.bi .abs [(.var 0)]), (.bi .abs [(.var 1)])])) [some (.sh (.int a)), some (.sh (.int b)), none, none] m = .nx [some (.sh (.int a)), some (.sh (.int b)), some (.sh (.int (if a < 0 then -a else a))), some (.sh (.int (if b < 0 then -b else b)))] m by simp only [DI.Ev.ss_nil, DI.Ev.ss_cons, DI.Ev.st_try, DI.Ev.ee_0, DI.Ev.ee_1, DI.Ev.ee_2, DI.Ev.ee_3, DI.Ev.ee_4, DI.Ev.ee_5, DI.Ev.ee_6, DI.Ev.ee_7, DI.Ev.ee_8, DI.Ev.ee_9, DI.Ev.ee_10, DI.Ev.ee_11, DI.Ev.ee_12, DI.Ev.ee_13, DI.Ev.ee_14, DI.Ev.ee_15, DI.Ev.ee_16, DI.Ev.ee_17, DI.Ev.ee_18, DI.Ev.ee_19, DI.Ev.ee_20, DI.Ev.ee_21, DI.Ev.ee_22, DI.Ev.ee_23, DI.Ev.ee_24, DI.Ev.ee_25, DI.Ev.ee_26, DI.Ev.ee_27, DI.Ev.ee_28, DI.Ev.ee_29, DI.Ev.ee_30, DI.Ev.es_0, DI.Ev.es_1, DI.Ev.eo_0, DI.Ev.eo_1, DI.Ev.ec_0, DI.Ev.ec_1, DI.Ev.ei_0, DI.Ev.ei_1, DI.Ev.ei_2, DI.Ev.ei_3, DI.Ev.ei_4, DI.Ev.ei_5, DI.Ev.ei_6, DI.Ev.st_0, DI.Ev.st_1, DI.Ev.st_2, DI.Ev.st_3, DI.Ev.st_4, DI.Ev.st_5, DI.Ev.st_6, DI.Ev.st_7, DI.Ev.st_8, DI.Ev.st_9, DI.Ev.st_10, DI.Ev.st_11, DI.Ev.st_12, DI.Ev.st_13, DI.Ev.st_14, DI.Ev.st_17, DI.Ev.st_18, DI.Ev.st_19, DI.Ev.st_20, evH, DI.Ev.compX_nil, DI.Ev.compX_cons, DI.Ev.noX_ok, ↓reduceIte, DI.T.slots, DI.T.slotss, DI.wipeS, DI.Ev.bind_ok, DI.Ev.bind_exc, DI.Ev.out_ok, DI.Ev.out_exc, DI.Ev.seq_nx, DI.Ev.seq_ret, DI.Ev.seq_exc, DI.Ev.seq_brk, DI.Ev.seq_ct, DI.Ev.rnd_nx, DI.Ev.rnd_ct, DI.Ev.rnd_brk, DI.Ev.rnd_ret, DI.Ev.rnd_exc, DI.Ev.tr_nx, DI.Ev.tr_ret, DI.Ev.tr_exc, DI.Ev.fin_ret, DI.Ev.fin_nx, DI.Ev.fin_exc, DI.Ev.st_for, DI.Ev.forF_eq, DI.Ev.e_lcomp, DI.Ev.e_dcomp, DI.Ev.compF_eq, DI.Ev.compG_eq, DI.Ev.forX_cons, DI.Ev.forX_nil, DI.Ev.evF_eq, DI.Ev.nxO_some, DI.Ev.asg_var, DI.Ev.asg_tup, DI.Ev.asg_lst, DI.Ev.asgs_nil, DI.Ev.asgs_cons, DI.Ev.obind, DI.Ev.lift_some, DI.Ev.call_some, DI.Ev.bin_add, DI.Ev.bin_sub, DI.Ev.negD_int, DI.Ev.cmp_lt, DI.Ev.cmp_le, DI.Ev.cmp_gt, DI.Ev.cmp_ge, DI.Ev.cmp_eqI, DI.Ev.cmp_neI, DI.Ev.cmp_eqB, DI.Ev.cmp_neB, DI.Ev.cmp_eqT, splD, List.length_cons, List.length_nil, Nat.reduceAdd, Nat.reduceSub, Nat.reduceLeDiff, Nat.reduceLT, Nat.le_refl, List.cons_append, List.nil_append, List.append_nil, List.map_cons, List.map_nil, List.replicate, List.getElem?_cons_zero, List.getElem?_cons_succ, List.getElem?_nil, List.set_cons_zero, List.set_cons_succ, if_true, if_false, ite_true, ite_false, and_self, and_true, true_and, reduceCtorEq, Bool.not_true, Bool.not_false, decide_true, decide_false, maxLen, bi_abs]]
    simp only [seq_nx]
    rw [ss_cons, e]
    simp only [DI.Ev.ss_nil, DI.Ev.ss_cons, DI.Ev.st_try, DI.Ev.ee_0, DI.Ev.ee_1, DI.Ev.ee_2, DI.Ev.ee_3, DI.Ev.ee_4, DI.Ev.ee_5, DI.Ev.ee_6, DI.Ev.ee_7, DI.Ev.ee_8, DI.Ev.ee_9, DI.Ev.ee_10, DI.Ev.ee_11, DI.Ev.ee_12, DI.Ev.ee_13, DI.Ev.ee_14, DI.Ev.ee_15, DI.Ev.ee_16, DI.Ev.ee_17, DI.Ev.ee_18, DI.Ev.ee_19, DI.Ev.ee_20, DI.Ev.ee_21, DI.Ev.ee_22, DI.Ev.ee_23, DI.Ev.ee_24, DI.Ev.ee_25, DI.Ev.ee_26, DI.Ev.ee_27, DI.Ev.ee_28, DI.Ev.ee_29, DI.Ev.ee_30, DI.Ev.es_0, DI.Ev.es_1, DI.Ev.eo_0, DI.Ev.eo_1, DI.Ev.ec_0, DI.Ev.ec_1, DI.Ev.ei_0, DI.Ev.ei_1, DI.Ev.ei_2, DI.Ev.ei_3, DI.Ev.ei_4, DI.Ev.ei_5, DI.Ev.ei_6, DI.Ev.st_0, DI.Ev.st_1, DI.Ev.st_2, DI.Ev.st_3, DI.Ev.st_4, DI.Ev.st_5, DI.Ev.st_6, DI.Ev.st_7, DI.Ev.st_8, DI.Ev.st_9, DI.Ev.st_10, DI.Ev.st_11, DI.Ev.st_12, DI.Ev.st_13, DI.Ev.st_14, DI.Ev.st_17, DI.Ev.st_18, DI.Ev.st_19, DI.Ev.st_20, evH, DI.Ev.compX_nil, DI.Ev.compX_cons, DI.Ev.noX_ok, ↓reduceIte, DI.T.slots, DI.T.slotss, DI.wipeS, DI.Ev.bind_ok, DI.Ev.bind_exc, DI.Ev.out_ok, DI.Ev.out_exc, DI.Ev.seq_nx, DI.Ev.seq_ret, DI.Ev.seq_exc, DI.Ev.seq_brk, DI.Ev.seq_ct, DI.Ev.rnd_nx, DI.Ev.rnd_ct, DI.Ev.rnd_brk, DI.Ev.rnd_ret, DI.Ev.rnd_exc, DI.Ev.tr_nx, DI.Ev.tr_ret, DI.Ev.tr_exc, DI.Ev.fin_ret, DI.Ev.fin_nx, DI.Ev.fin_exc, DI.Ev.st_for, DI.Ev.forF_eq, DI.Ev.e_lcomp, DI.Ev.e_dcomp, DI.Ev.compF_eq, DI.Ev.compG_eq, DI.Ev.forX_cons, DI.Ev.forX_nil, DI.Ev.evF_eq, DI.Ev.nxO_some, DI.Ev.asg_var, DI.Ev.asg_tup, DI.Ev.asg_lst, DI.Ev.asgs_nil, DI.Ev.asgs_cons, DI.Ev.obind, DI.Ev.lift_some, DI.Ev.call_some, DI.Ev.bin_add, DI.Ev.bin_sub, DI.Ev.negD_int, DI.Ev.cmp_lt, DI.Ev.cmp_le, DI.Ev.cmp_gt, DI.Ev.cmp_ge, DI.Ev.cmp_eqI, DI.Ev.cmp_neI, DI.Ev.cmp_eqB, DI.Ev.cmp_neB, DI.Ev.cmp_eqT, splD, List.length_cons, List.length_nil, Nat.reduceAdd, Nat.reduceSub, Nat.reduceLeDiff, Nat.reduceLT, Nat.le_refl, List.cons_append, List.nil_append, List.append_nil, List.map_cons, List.map_nil, List.replicate, List.getElem?_cons_zero, List.getElem?_cons_succ, List.getElem?_nil, List.set_cons_zero, List.set_cons_succ, if_true, if_false, ite_true, ite_false, and_self, and_true, true_and, reduceCtorEq, Bool.not_true, Bool.not_false, decide_true, decide_false, maxLen, z, bin_fdiv hd]
  · have : dv a b = (Int.gcd a b : Int) := by unfold dv; rw [if_pos (by omega)]
    rw [this] at hd
    unfold nt nb
    rw [this]
    simp only [ss_cons, evF_eq, List.length_cons, List.length_nil, Nat.reduceAdd, if_true, List.map_cons, List.map_nil, Nat.reduceSub, List.replicate, List.cons_append, List.nil_append]
    rw [show evS g__law_frac (.asg (.tup [(.var 2), (.var 3)]) (.tup [(.bi .abs [(.var 0)]), (.bi .abs [(.var 1)])])) [some (.sh (.int a)), some (.sh (.int b)), none, none] m = .nx [some (.sh (.int a)), some (.sh (.int b)), some (.sh (.int (if a < 0 then -a else a))), some (.sh (.int (if b < 0 then -b else b)))] m by simp only [DI.Ev.ss_nil, DI.Ev.ss_cons, DI.Ev.st_try, DI.Ev.ee_0, DI.Ev.ee_1, DI.Ev.ee_2, DI.Ev.ee_3, DI.Ev.ee_4, DI.Ev.ee_5, DI.Ev.ee_6, DI.Ev.ee_7, DI.Ev.ee_8, DI.Ev.ee_9, DI.Ev.ee_10, DI.Ev.ee_11, DI.Ev.ee_12, DI.Ev.ee_13, DI.Ev.ee_14, DI.Ev.ee_15, DI.Ev.ee_16, DI.Ev.ee_17, DI.Ev.ee_18, DI.Ev.ee_19, DI.Ev.ee_20, DI.Ev.ee_21, DI.Ev.ee_22, DI.Ev.ee_23, DI.Ev.ee_24, DI.Ev.ee_25, DI.Ev.ee_26, DI.Ev.ee_27, DI.Ev.ee_28, DI.Ev.ee_29, DI.Ev.ee_30, DI.Ev.es_0, DI.Ev.es_1, DI.Ev.eo_0, DI.Ev.eo_1, DI.Ev.ec_0, DI.Ev.ec_1, DI.Ev.ei_0, DI.Ev.ei_1, DI.Ev.ei_2, DI.Ev.ei_3, DI.Ev.ei_4, DI.Ev.ei_5, DI.Ev.ei_6, DI.Ev.st_0, DI.Ev.st_1, DI.Ev.st_2, DI.Ev.st_3, DI.Ev.st_4, DI.Ev.st_5, DI.Ev.st_6, DI.Ev.st_7, DI.Ev.st_8, DI.Ev.st_9, DI.Ev.st_10, DI.Ev.st_11, DI.Ev.st_12, DI.Ev.st_13, DI.Ev.st_14, DI.Ev.st_17, DI.Ev.st_18, DI.Ev.st_19, DI.Ev.st_20, evH, DI.Ev.compX_nil, DI.Ev.compX_cons, DI.Ev.noX_ok, ↓reduceIte, DI.T.slots, DI.T.slotss, DI.wipeS, DI.Ev.bind_ok, DI.Ev.bind_exc, DI.Ev.out_ok, DI.Ev.out_exc, DI.Ev.seq_nx, DI.Ev.seq_ret, DI.Ev.seq_exc, DI.Ev.seq_brk, DI.Ev.seq_ct, DI.Ev.rnd_nx, DI.Ev.rnd_ct, DI.Ev.rnd_brk, DI.Ev.rnd_ret, DI.Ev.rnd_exc, DI.Ev.tr_nx, DI.Ev.tr_ret, DI.Ev.tr_exc, DI.Ev.fin_ret, DI.Ev.fin_nx, DI.Ev.fin_exc, DI.Ev.st_for, DI.Ev.forF_eq, DI.Ev.e_lcomp, DI.Ev.e_dcomp, DI.Ev.compF_eq, DI.Ev.compG_eq, DI.Ev.forX_cons, DI.Ev.forX_nil, DI.Ev.evF_eq, DI.Ev.nxO_some, DI.Ev.asg_var, DI.Ev.asg_tup, DI.Ev.asg_lst, DI.Ev.asgs_nil, DI.Ev.asgs_cons, DI.Ev.obind, DI.Ev.lift_some, DI.Ev.call_some, DI.Ev.bin_add, DI.Ev.bin_sub, DI.Ev.negD_int, DI.Ev.cmp_lt, DI.Ev.cmp_le, DI.Ev.cmp_gt, DI.Ev.cmp_ge, DI.Ev.cmp_eqI, DI.Ev.cmp_neI, DI.Ev.cmp_eqB, DI.Ev.cmp_neB, DI.Ev.cmp_eqT, splD, List.length_cons, List.length_nil, Nat.reduceAdd, Nat.reduceSub, Nat.reduceLeDiff, Nat.reduceLT, Nat.le_refl, List.cons_append, List.nil_append, List.append_nil, List.map_cons, List.map_nil, List.replicate, List.getElem?_cons_zero, List.getElem?_cons_succ, List.getElem?_nil, List.set_cons_zero, List.set_cons_succ, if_true, if_false, ite_true, ite_false, and_self, and_true, true_and, reduceCtorEq, Bool.not_true, Bool.not_false, decide_true, decide_false, maxLen, bi_abs]]
    simp only [seq_nx]
    rw [ss_cons, e]
    simp only [DI.Ev.ss_nil, DI.Ev.ss_cons, DI.Ev.st_try, DI.Ev.ee_0, DI.Ev.ee_1, DI.Ev.ee_2, DI.Ev.ee_3, DI.Ev.ee_4, DI.Ev.ee_5, DI.Ev.ee_6, DI.Ev.ee_7, DI.Ev.ee_8, DI.Ev.ee_9, DI.Ev.ee_10, DI.Ev.ee_11, DI.Ev.ee_12, DI.Ev.ee_13, DI.Ev.ee_14, DI.Ev.ee_15, DI.Ev.ee_16, DI.Ev.ee_17, DI.Ev.ee_18, DI.Ev.ee_19, DI.Ev.ee_20, DI.Ev.ee_21, DI.Ev.ee_22, DI.Ev.ee_23, DI.Ev.ee_24, DI.Ev.ee_25, DI.Ev.ee_26, DI.Ev.ee_27, DI.Ev.ee_28, DI.Ev.ee_29, DI.Ev.ee_30, DI.Ev.es_0, DI.Ev.es_1, DI.Ev.eo_0, DI.Ev.eo_1, DI.Ev.ec_0, DI.Ev.ec_1, DI.Ev.ei_0, DI.Ev.ei_1, DI.Ev.ei_2, DI.Ev.ei_3, DI.Ev.ei_4, DI.Ev.ei_5, DI.Ev.ei_6, DI.Ev.st_0, DI.Ev.st_1, DI.Ev.st_2, DI.Ev.st_3, DI.Ev.st_4, DI.Ev.st_5, DI.Ev.st_6, DI.Ev.st_7, DI.Ev.st_8, DI.Ev.st_9, DI.Ev.st_10, DI.Ev.st_11, DI.Ev.st_12, DI.Ev.st_13, DI.Ev.st_14, DI.Ev.st_17, DI.Ev.st_18, DI.Ev.st_19, DI.Ev.st_20, evH, DI.Ev.compX_nil, DI.Ev.compX_cons, DI.Ev.noX_ok, ↓reduceIte, DI.T.slots, DI.T.slotss, DI.wipeS, DI.Ev.bind_ok, DI.Ev.bind_exc, DI.Ev.out_ok, DI.Ev.out_exc, DI.Ev.seq_nx, DI.Ev.seq_ret, DI.Ev.seq_exc, DI.Ev.seq_brk, DI.Ev.seq_ct, DI.Ev.rnd_nx, DI.Ev.rnd_ct, DI.Ev.rnd_brk, DI.Ev.rnd_ret, DI.Ev.rnd_exc, DI.Ev.tr_nx, DI.Ev.tr_ret, DI.Ev.tr_exc, DI.Ev.fin_ret, DI.Ev.fin_nx, DI.Ev.fin_exc, DI.Ev.st_for, DI.Ev.forF_eq, DI.Ev.e_lcomp, DI.Ev.e_dcomp, DI.Ev.compF_eq, DI.Ev.compG_eq, DI.Ev.forX_cons, DI.Ev.forX_nil, DI.Ev.evF_eq, DI.Ev.nxO_some, DI.Ev.asg_var, DI.Ev.asg_tup, DI.Ev.asg_lst, DI.Ev.asgs_nil, DI.Ev.asgs_cons, DI.Ev.obind, DI.Ev.lift_some, DI.Ev.call_some, DI.Ev.bin_add, DI.Ev.bin_sub, DI.Ev.negD_int, DI.Ev.cmp_lt, DI.Ev.cmp_le, DI.Ev.cmp_gt, DI.Ev.cmp_ge, DI.Ev.cmp_eqI, DI.Ev.cmp_neI, DI.Ev.cmp_eqB, DI.Ev.cmp_neB, DI.Ev.cmp_eqT, splD, List.length_cons, List.length_nil, Nat.reduceAdd, Nat.reduceSub, Nat.reduceLeDiff, Nat.reduceLT, Nat.le_refl, List.cons_append, List.nil_append, List.append_nil, List.map_cons, List.map_nil, List.replicate, List.getElem?_cons_zero, List.getElem?_cons_succ, List.getElem?_nil, List.set_cons_zero, List.set_cons_succ, if_true, if_false, ite_true, ite_false, and_self, and_true, true_and, reduceCtorEq, Bool.not_true, Bool.not_false, decide_true, decide_false, maxLen, z, bin_fdiv hd]
def pr (a b : Int) : D := .tup [.int a, .int b]
variable {a b c d n : Int} {y : D} {m : MS}
theorem plus_ok (hb : b ≠ 0) (hd : d ≠ 0) (sa : Sm a) (sb : Sm b) (sc : Sm c) (sd : Sm d) (s : Sm (b * d)) : m__law_plus [pr a b, pr c d] m = .ok (pr (nt (a * d + c * b) (b * d)) (nb (a * d + c * b) (b * d))) m := by
  have f1 : g__law_plus.fn = [m__law_frac] := rfl
  unfold m__law_plus ir__law_plus pr
  simp only [DI.Ev.ss_nil, DI.Ev.ss_cons, DI.Ev.st_try, DI.Ev.ee_0, DI.Ev.ee_1, DI.Ev.ee_2, DI.Ev.ee_3, DI.Ev.ee_4, DI.Ev.ee_5, DI.Ev.ee_6, DI.Ev.ee_7, DI.Ev.ee_8, DI.Ev.ee_9, DI.Ev.ee_10, DI.Ev.ee_11, DI.Ev.ee_12, DI.Ev.ee_13, DI.Ev.ee_14, DI.Ev.ee_15, DI.Ev.ee_16, DI.Ev.ee_17, DI.Ev.ee_18, DI.Ev.ee_19, DI.Ev.ee_20, DI.Ev.ee_21, DI.Ev.ee_22, DI.Ev.ee_23, DI.Ev.ee_24, DI.Ev.ee_25, DI.Ev.ee_26, DI.Ev.ee_27, DI.Ev.ee_28, DI.Ev.ee_29, DI.Ev.ee_30, DI.Ev.es_0, DI.Ev.es_1, DI.Ev.eo_0, DI.Ev.eo_1, DI.Ev.ec_0, DI.Ev.ec_1, DI.Ev.ei_0, DI.Ev.ei_1, DI.Ev.ei_2, DI.Ev.ei_3, DI.Ev.ei_4, DI.Ev.ei_5, DI.Ev.ei_6, DI.Ev.st_0, DI.Ev.st_1, DI.Ev.st_2, DI.Ev.st_3, DI.Ev.st_4, DI.Ev.st_5, DI.Ev.st_6, DI.Ev.st_7, DI.Ev.st_8, DI.Ev.st_9, DI.Ev.st_10, DI.Ev.st_11, DI.Ev.st_12, DI.Ev.st_13, DI.Ev.st_14, DI.Ev.st_17, DI.Ev.st_18, DI.Ev.st_19, DI.Ev.st_20, evH, DI.Ev.compX_nil, DI.Ev.compX_cons, DI.Ev.noX_ok, ↓reduceIte, DI.T.slots, DI.T.slotss, DI.wipeS, DI.Ev.bind_ok, DI.Ev.bind_exc, DI.Ev.out_ok, DI.Ev.out_exc, DI.Ev.seq_nx, DI.Ev.seq_ret, DI.Ev.seq_exc, DI.Ev.seq_brk, DI.Ev.seq_ct, DI.Ev.rnd_nx, DI.Ev.rnd_ct, DI.Ev.rnd_brk, DI.Ev.rnd_ret, DI.Ev.rnd_exc, DI.Ev.tr_nx, DI.Ev.tr_ret, DI.Ev.tr_exc, DI.Ev.fin_ret, DI.Ev.fin_nx, DI.Ev.fin_exc, DI.Ev.st_for, DI.Ev.forF_eq, DI.Ev.e_lcomp, DI.Ev.e_dcomp, DI.Ev.compF_eq, DI.Ev.compG_eq, DI.Ev.forX_cons, DI.Ev.forX_nil, DI.Ev.evF_eq, DI.Ev.nxO_some, DI.Ev.asg_var, DI.Ev.asg_tup, DI.Ev.asg_lst, DI.Ev.asgs_nil, DI.Ev.asgs_cons, DI.Ev.obind, DI.Ev.lift_some, DI.Ev.call_some, DI.Ev.bin_add, DI.Ev.bin_sub, DI.Ev.negD_int, DI.Ev.cmp_lt, DI.Ev.cmp_le, DI.Ev.cmp_gt, DI.Ev.cmp_ge, DI.Ev.cmp_eqI, DI.Ev.cmp_neI, DI.Ev.cmp_eqB, DI.Ev.cmp_neB, DI.Ev.cmp_eqT, splD, List.length_cons, List.length_nil, Nat.reduceAdd, Nat.reduceSub, Nat.reduceLeDiff, Nat.reduceLT, Nat.le_refl, List.cons_append, List.nil_append, List.append_nil, List.map_cons, List.map_nil, List.replicate, List.getElem?_cons_zero, List.getElem?_cons_succ, List.getElem?_nil, List.set_cons_zero, List.set_cons_succ, if_true, if_false, ite_true, ite_false, and_self, and_true, true_and, reduceCtorEq, Bool.not_true, Bool.not_false, decide_true, decide_false, maxLen, f1, idx_tup, atI_0, atI_1, bin_mul, mulOk_of, sa, sb, sc, sd, frac_ok, s, ne_eq, Int.mul_eq_zero, hb, hd, or_self, not_false_eq_true]
theorem times_ok (hb : b ≠ 0) (hd : d ≠ 0) (sa : Sm a) (sb : Sm b) (sc : Sm c) (sd : Sm d) (s : Sm (b * d)) : m__law_times [pr a b, pr c d] m = .ok (pr (nt (a * c) (b * d)) (nb (a * c) (b * d))) m := by
  have f1 : g__law_times.fn = [m__law_frac] := rfl
  unfold m__law_times ir__law_times pr
  simp only [DI.Ev.ss_nil, DI.Ev.ss_cons, DI.Ev.st_try, DI.Ev.ee_0, DI.Ev.ee_1, DI.Ev.ee_2, DI.Ev.ee_3, DI.Ev.ee_4, DI.Ev.ee_5, DI.Ev.ee_6, DI.Ev.ee_7, DI.Ev.ee_8, DI.Ev.ee_9, DI.Ev.ee_10, DI.Ev.ee_11, DI.Ev.ee_12, DI.Ev.ee_13, DI.Ev.ee_14, DI.Ev.ee_15, DI.Ev.ee_16, DI.Ev.ee_17, DI.Ev.ee_18, DI.Ev.ee_19, DI.Ev.ee_20, DI.Ev.ee_21, DI.Ev.ee_22, DI.Ev.ee_23, DI.Ev.ee_24, DI.Ev.ee_25, DI.Ev.ee_26, DI.Ev.ee_27, DI.Ev.ee_28, DI.Ev.ee_29, DI.Ev.ee_30, DI.Ev.es_0, DI.Ev.es_1, DI.Ev.eo_0, DI.Ev.eo_1, DI.Ev.ec_0, DI.Ev.ec_1, DI.Ev.ei_0, DI.Ev.ei_1, DI.Ev.ei_2, DI.Ev.ei_3, DI.Ev.ei_4, DI.Ev.ei_5, DI.Ev.ei_6, DI.Ev.st_0, DI.Ev.st_1, DI.Ev.st_2, DI.Ev.st_3, DI.Ev.st_4, DI.Ev.st_5, DI.Ev.st_6, DI.Ev.st_7, DI.Ev.st_8, DI.Ev.st_9, DI.Ev.st_10, DI.Ev.st_11, DI.Ev.st_12, DI.Ev.st_13, DI.Ev.st_14, DI.Ev.st_17, DI.Ev.st_18, DI.Ev.st_19, DI.Ev.st_20, evH, DI.Ev.compX_nil, DI.Ev.compX_cons, DI.Ev.noX_ok, ↓reduceIte, DI.T.slots, DI.T.slotss, DI.wipeS, DI.Ev.bind_ok, DI.Ev.bind_exc, DI.Ev.out_ok, DI.Ev.out_exc, DI.Ev.seq_nx, DI.Ev.seq_ret, DI.Ev.seq_exc, DI.Ev.seq_brk, DI.Ev.seq_ct, DI.Ev.rnd_nx, DI.Ev.rnd_ct, DI.Ev.rnd_brk, DI.Ev.rnd_ret, DI.Ev.rnd_exc, DI.Ev.tr_nx, DI.Ev.tr_ret, DI.Ev.tr_exc, DI.Ev.fin_ret, DI.Ev.fin_nx, DI.Ev.fin_exc, DI.Ev.st_for, DI.Ev.forF_eq, DI.Ev.e_lcomp, DI.Ev.e_dcomp, DI.Ev.compF_eq, DI.Ev.compG_eq, DI.Ev.forX_cons, DI.Ev.forX_nil, DI.Ev.evF_eq, DI.Ev.nxO_some, DI.Ev.asg_var, DI.Ev.asg_tup, DI.Ev.asg_lst, DI.Ev.asgs_nil, DI.Ev.asgs_cons, DI.Ev.obind, DI.Ev.lift_some, DI.Ev.call_some, DI.Ev.bin_add, DI.Ev.bin_sub, DI.Ev.negD_int, DI.Ev.cmp_lt, DI.Ev.cmp_le, DI.Ev.cmp_gt, DI.Ev.cmp_ge, DI.Ev.cmp_eqI, DI.Ev.cmp_neI, DI.Ev.cmp_eqB, DI.Ev.cmp_neB, DI.Ev.cmp_eqT, splD, List.length_cons, List.length_nil, Nat.reduceAdd, Nat.reduceSub, Nat.reduceLeDiff, Nat.reduceLT, Nat.le_refl, List.cons_append, List.nil_append, List.append_nil, List.map_cons, List.map_nil, List.replicate, List.getElem?_cons_zero, List.getElem?_cons_succ, List.getElem?_nil, List.set_cons_zero, List.set_cons_succ, if_true, if_false, ite_true, ite_false, and_self, and_true, true_and, reduceCtorEq, Bool.not_true, Bool.not_false, decide_true, decide_false, maxLen, f1, idx_tup, atI_0, atI_1, bin_mul, mulOk_of, sa, sb, sc, sd, frac_ok, s, ne_eq, Int.mul_eq_zero, hb, hd, or_self, not_false_eq_true]
theorem less_ok (sa : Sm a) (sb : Sm b) (sc : Sm c) (sd : Sm d) : m__law_less [pr a b, pr c d] m = .ok (.bl (decide (a * d < c * b))) m := by
  unfold m__law_less ir__law_less pr
  simp only [DI.Ev.ss_nil, DI.Ev.ss_cons, DI.Ev.st_try, DI.Ev.ee_0, DI.Ev.ee_1, DI.Ev.ee_2, DI.Ev.ee_3, DI.Ev.ee_4, DI.Ev.ee_5, DI.Ev.ee_6, DI.Ev.ee_7, DI.Ev.ee_8, DI.Ev.ee_9, DI.Ev.ee_10, DI.Ev.ee_11, DI.Ev.ee_12, DI.Ev.ee_13, DI.Ev.ee_14, DI.Ev.ee_15, DI.Ev.ee_16, DI.Ev.ee_17, DI.Ev.ee_18, DI.Ev.ee_19, DI.Ev.ee_20, DI.Ev.ee_21, DI.Ev.ee_22, DI.Ev.ee_23, DI.Ev.ee_24, DI.Ev.ee_25, DI.Ev.ee_26, DI.Ev.ee_27, DI.Ev.ee_28, DI.Ev.ee_29, DI.Ev.ee_30, DI.Ev.es_0, DI.Ev.es_1, DI.Ev.eo_0, DI.Ev.eo_1, DI.Ev.ec_0, DI.Ev.ec_1, DI.Ev.ei_0, DI.Ev.ei_1, DI.Ev.ei_2, DI.Ev.ei_3, DI.Ev.ei_4, DI.Ev.ei_5, DI.Ev.ei_6, DI.Ev.st_0, DI.Ev.st_1, DI.Ev.st_2, DI.Ev.st_3, DI.Ev.st_4, DI.Ev.st_5, DI.Ev.st_6, DI.Ev.st_7, DI.Ev.st_8, DI.Ev.st_9, DI.Ev.st_10, DI.Ev.st_11, DI.Ev.st_12, DI.Ev.st_13, DI.Ev.st_14, DI.Ev.st_17, DI.Ev.st_18, DI.Ev.st_19, DI.Ev.st_20, evH, DI.Ev.compX_nil, DI.Ev.compX_cons, DI.Ev.noX_ok, ↓reduceIte, DI.T.slots, DI.T.slotss, DI.wipeS, DI.Ev.bind_ok, DI.Ev.bind_exc, DI.Ev.out_ok, DI.Ev.out_exc, DI.Ev.seq_nx, DI.Ev.seq_ret, DI.Ev.seq_exc, DI.Ev.seq_brk, DI.Ev.seq_ct, DI.Ev.rnd_nx, DI.Ev.rnd_ct, DI.Ev.rnd_brk, DI.Ev.rnd_ret, DI.Ev.rnd_exc, DI.Ev.tr_nx, DI.Ev.tr_ret, DI.Ev.tr_exc, DI.Ev.fin_ret, DI.Ev.fin_nx, DI.Ev.fin_exc, DI.Ev.st_for, DI.Ev.forF_eq, DI.Ev.e_lcomp, DI.Ev.e_dcomp, DI.Ev.compF_eq, DI.Ev.compG_eq, DI.Ev.forX_cons, DI.Ev.forX_nil, DI.Ev.evF_eq, DI.Ev.nxO_some, DI.Ev.asg_var, DI.Ev.asg_tup, DI.Ev.asg_lst, DI.Ev.asgs_nil, DI.Ev.asgs_cons, DI.Ev.obind, DI.Ev.lift_some, DI.Ev.call_some, DI.Ev.bin_add, DI.Ev.bin_sub, DI.Ev.negD_int, DI.Ev.cmp_lt, DI.Ev.cmp_le, DI.Ev.cmp_gt, DI.Ev.cmp_ge, DI.Ev.cmp_eqI, DI.Ev.cmp_neI, DI.Ev.cmp_eqB, DI.Ev.cmp_neB, DI.Ev.cmp_eqT, splD, List.length_cons, List.length_nil, Nat.reduceAdd, Nat.reduceSub, Nat.reduceLeDiff, Nat.reduceLT, Nat.le_refl, List.cons_append, List.nil_append, List.append_nil, List.map_cons, List.map_nil, List.replicate, List.getElem?_cons_zero, List.getElem?_cons_succ, List.getElem?_nil, List.set_cons_zero, List.set_cons_succ, if_true, if_false, ite_true, ite_false, and_self, and_true, true_and, reduceCtorEq, Bool.not_true, Bool.not_false, decide_true, decide_false, maxLen, idx_tup, atI_0, atI_1, bin_mul, mulOk_of, sa, sb, sc, sd]
theorem inst_rat : tyN m (rat a b) = some (.own 0) := rfl
section
variable {fs : List DI.Sem} {me : List (List (Nat × DI.Sem))}
theorem op_add (y : D) (hy : y = .int n ∨ ∃ c d, y = rat c d) : binD (withOps fs me) .add (rat a b) y m = m_Ratio___add__ [rat a b, y] m := by
  rcases hy with rfl | ⟨c, d, rfl⟩ <;> rfl
theorem op_sub (y : D) (hy : y = .int n ∨ ∃ c d, y = rat c d) : binD (withOps fs me) .sub (rat a b) y m = m_Ratio___sub__ [rat a b, y] m := by
  rcases hy with rfl | ⟨c, d, rfl⟩ <;> rfl
theorem op_mul (y : D) (hy : y = .int n ∨ ∃ c d, y = rat c d) : binD (withOps fs me) .mul (rat a b) y m = m_Ratio___mul__ [rat a b, y] m := by
  rcases hy with rfl | ⟨c, d, rfl⟩ <;> rfl
theorem op_neg : negD (withOps fs me) (rat a b) m = m_Ratio___neg__ [rat a b] m := rfl
theorem op_eq (y : D) (hy : ∀ i, y ≠ .ref i) : eqD (withOps fs me) eqFuel (rat a b) y m = askB (m_Ratio___eq__ [rat a b, y] m) := by
  cases y with
  | ref i => exact absurd rfl (hy i)
  | _ => rfl
theorem op_lt (y : D) (hy : ∀ i, y ≠ .ref i) : cmpD (withOps fs me) .lt (rat a b) y m = m_Ratio___lt__ [rat a b, y] m := by
  cases y with
  | ref i => exact absurd rfl (hy i)
  | _ => rfl
theorem op_le (y : D) (hy : ∀ i, y ≠ .ref i) : cmpD (withOps fs me) .le (rat a b) y m = m_Ratio___le__ [rat a b, y] m := by
  cases y with
  | ref i => exact absurd rfl (hy i)
  | _ => rfl
theorem ask_bl (x : Bool) : askB (.ok (.bl x) m) = .ok x m := rfl
theorem cmp_eqR (y : D) (h : Ch y c d) : cmpD (withOps fs me) .eq (rat a b) y m = .ok (.bl (decide (c = a ∧ d = b))) m := by
  simp only [cmpD, op_eq y h.nr, eq_ok h, ask_bl]
theorem cmp_neR (y : D) (h : Ch y c d) : cmpD (withOps fs me) .ne (rat a b) y m = .ok (.bl !(decide (c = a ∧ d = b))) m := by
  simp only [cmpD, op_eq y h.nr, eq_ok h, ask_bl]
theorem cmp_ltR (y : D) (h : Ch y c d) (sa : Sm a) (sb : Sm b) (sc : Sm c) (sd : Sm d) : cmpD (withOps fs me) .lt (rat a b) y m = .ok (.bl (decide (a * d < c * b))) m := by
  rw [op_lt y h.nr, lt_ok h sa sb sc sd]
theorem cmp_leR (y : D) (h : Ch y c d) (sa : Sm a) (sb : Sm b) (sc : Sm c) (sd : Sm d) : cmpD (withOps fs me) .le (rat a b) y m = .ok (.bl (decide (a * d ≤ c * b))) m := by
  rw [op_le y h.nr, le_ok h sa sb sc sd]
end
theorem as_ratio_ok (h : Ch y c d) (hd : d ≠ 0) (sd : Sm d) : m_as_ratio [y] m = .ok (rat (nt c d) (nb c d)) m := by
  have f1 : g_as_ratio.fn = [m_checked, m_Ratio2] := rfl
  unfold m_as_ratio ir_as_ratio
  simp only [DI.Ev.ss_nil, DI.Ev.ss_cons, DI.Ev.st_try, DI.Ev.ee_0, DI.Ev.ee_1, DI.Ev.ee_2, DI.Ev.ee_3, DI.Ev.ee_4, DI.Ev.ee_5, DI.Ev.ee_6, DI.Ev.ee_7, DI.Ev.ee_8, DI.Ev.ee_9, DI.Ev.ee_10, DI.Ev.ee_11, DI.Ev.ee_12, DI.Ev.ee_13, DI.Ev.ee_14, DI.Ev.ee_15, DI.Ev.ee_16, DI.Ev.ee_17, DI.Ev.ee_18, DI.Ev.ee_19, DI.Ev.ee_20, DI.Ev.ee_21, DI.Ev.ee_22, DI.Ev.ee_23, DI.Ev.ee_24, DI.Ev.ee_25, DI.Ev.ee_26, DI.Ev.ee_27, DI.Ev.ee_28, DI.Ev.ee_29, DI.Ev.ee_30, DI.Ev.es_0, DI.Ev.es_1, DI.Ev.eo_0, DI.Ev.eo_1, DI.Ev.ec_0, DI.Ev.ec_1, DI.Ev.ei_0, DI.Ev.ei_1, DI.Ev.ei_2, DI.Ev.ei_3, DI.Ev.ei_4, DI.Ev.ei_5, DI.Ev.ei_6, DI.Ev.st_0, DI.Ev.st_1, DI.Ev.st_2, DI.Ev.st_3, DI.Ev.st_4, DI.Ev.st_5, DI.Ev.st_6, DI.Ev.st_7, DI.Ev.st_8, DI.Ev.st_9, DI.Ev.st_10, DI.Ev.st_11, DI.Ev.st_12, DI.Ev.st_13, DI.Ev.st_14, DI.Ev.st_17, DI.Ev.st_18, DI.Ev.st_19, DI.Ev.st_20, evH, DI.Ev.compX_nil, DI.Ev.compX_cons, DI.Ev.noX_ok, ↓reduceIte, DI.T.slots, DI.T.slotss, DI.wipeS, DI.Ev.bind_ok, DI.Ev.bind_exc, DI.Ev.out_ok, DI.Ev.out_exc, DI.Ev.seq_nx, DI.Ev.seq_ret, DI.Ev.seq_exc, DI.Ev.seq_brk, DI.Ev.seq_ct, DI.Ev.rnd_nx, DI.Ev.rnd_ct, DI.Ev.rnd_brk, DI.Ev.rnd_ret, DI.Ev.rnd_exc, DI.Ev.tr_nx, DI.Ev.tr_ret, DI.Ev.tr_exc, DI.Ev.fin_ret, DI.Ev.fin_nx, DI.Ev.fin_exc, DI.Ev.st_for, DI.Ev.forF_eq, DI.Ev.e_lcomp, DI.Ev.e_dcomp, DI.Ev.compF_eq, DI.Ev.compG_eq, DI.Ev.forX_cons, DI.Ev.forX_nil, DI.Ev.evF_eq, DI.Ev.nxO_some, DI.Ev.asg_var, DI.Ev.asg_tup, DI.Ev.asg_lst, DI.Ev.asgs_nil, DI.Ev.asgs_cons, DI.Ev.obind, DI.Ev.lift_some, DI.Ev.call_some, DI.Ev.bin_add, DI.Ev.bin_sub, DI.Ev.negD_int, DI.Ev.cmp_lt, DI.Ev.cmp_le, DI.Ev.cmp_gt, DI.Ev.cmp_ge, DI.Ev.cmp_eqI, DI.Ev.cmp_neI, DI.Ev.cmp_eqB, DI.Ev.cmp_neB, DI.Ev.cmp_eqT, splD, List.length_cons, List.length_nil, Nat.reduceAdd, Nat.reduceSub, Nat.reduceLeDiff, Nat.reduceLT, Nat.le_refl, List.cons_append, List.nil_append, List.append_nil, List.map_cons, List.map_nil, List.replicate, List.getElem?_cons_zero, List.getElem?_cons_succ, List.getElem?_nil, List.set_cons_zero, List.set_cons_succ, if_true, if_false, ite_true, ite_false, and_self, and_true, true_and, reduceCtorEq, Bool.not_true, Bool.not_false, decide_true, decide_false, maxLen, f1, h.ch, Ratio2_ok, hd, sd, ne_eq, not_false_eq_true]
/-- in lowest terms -/
structure Nf (a b : Int) : Prop where
  pos : 0 < b
  nt : nt a b = a
  nb : nb a b = b
theorem nf_of {a b : Int} (h : b ≠ 0) : Nf (nt a b) (nb a b) := ⟨nb_pos h, (idem h).1, (idem h).2⟩
theorem nf_int (n : Int) : Nf n 1 := ⟨by decide, (whole n).1, (whole n).2⟩
theorem Nf.ne {a b : Int} (h : Nf a b) : b ≠ 0 := by have := h.pos; omega
/-- as_ratio of a number in lowest terms -/
theorem as_ratio_nf (h : Ch y c d) (hn : Nf c d) (sd : Sm d) : m_as_ratio [y] m = .ok (rat c d) m := by
  rw [as_ratio_ok h hn.ne sd, hn.nt, hn.nb]
end K56
end

section
set_option linter.all false
set_option exponentiation.threshold 100000
set_option maxRecDepth 100000
set_option maxHeartbeats 1000000
namespace K56
open PySem L2 DI
open PyProof.Rows hiding St
open DI.Ev
/-! ### numbers of few bits -/
def Bd (k : Nat) (i : Int) : Prop := i.natAbs < 2 ^ k
theorem Bd.mono {j k : Nat} {i : Int} (h : Bd j i) (hk : j ≤ k) : Bd k i := Nat.lt_of_lt_of_le h (Nat.pow_le_pow_right (by decide) hk)
theorem Bd.sm {k : Nat} {i : Int} (h : Bd k i) (hk : k ≤ 2000) : Sm i := h.mono hk
theorem Bd.mul {j k : Nat} {a b : Int} (h : Bd j a) (h2 : Bd k b) : Bd (j + k) (a * b) := by
  unfold Bd at *
  rw [Int.natAbs_mul, Nat.pow_add]
  exact Nat.mul_lt_mul'' h h2
theorem Bd.add {k : Nat} {a b : Int} (h : Bd k a) (h2 : Bd k b) : Bd (k + 1) (a + b) := by
  unfold Bd at *
  have := Int.natAbs_add_le a b
  rw [Nat.pow_succ]; omega
theorem Bd.of_le {k : Nat} {a b : Int} (h : Bd k b) (h2 : a.natAbs ≤ b.natAbs) : Bd k a := Nat.lt_of_le_of_lt h2 h
theorem bd_lit {i : Int} (h : i.natAbs < 1267650600228229401496703205376) : Bd 100 i := Nat.lt_of_lt_of_le h (by decide)
theorem bd10 {i : Int} (h : i.natAbs ≤ 100) : Bd 10 i := Nat.lt_of_le_of_lt h (by decide)
theorem sm_of {i : Int} (h : i.natAbs < 1267650600228229401496703205376) : Sm i := (bd_lit h).sm (by decide)
theorem Nf.same {a b c d : Int} (h : Nf a b) (h2 : Nf c d) (e : a * d = c * b) : a = c ∧ b = d := by
  have := uniq h.ne h2.ne e
  rw [h.nt, h.nb, h2.nt, h2.nb] at this
  exact this
/-- a whole number, or a Ratio in lowest terms -/
structure Nu (y : D) (c d : Int) : Prop where
  ch : Ch y c d
  sh : (∃ n, y = .int n) ∨ ∃ c d, y = rat c d
  nf : Nf c d
theorem nu_int (n : Int) : Nu (.int n) n 1 := ⟨ch_int n, .inl ⟨n, rfl⟩, nf_int n⟩
theorem nu_rat {a b : Int} (h : Nf a b) : Nu (rat a b) a b := ⟨ch_rat a b, .inr ⟨a, b, rfl⟩, h⟩
abbrev Q := Int × Int
def prq (q : Q) : D := .tup [.int q.1, .int q.2]
def raq (q : Q) : D := rat q.1 q.2
structure OkQ (k : Nat) (q : Q) : Prop where
  nf : Nf q.1 q.2
  b1 : Bd k q.1
  b2 : Bd k q.2
def ltq (p q : Q) : Bool := decide (p.1 * q.2 < q.1 * p.2)
/-- the fraction j / 40 -/
def uq (j : Int) : Q := (nt j 40, nb j 40)
theorem uq_nf (j : Int) : Nf (uq j).1 (uq j).2 := nf_of (by decide)
theorem uq_pos (j : Int) : 0 < (uq j).2 := nb_pos (a := j) (b := 40) (by decide)
theorem uq_cross (j : Int) : (uq j).1 * 40 = j * (uq j).2 := cross j 40
theorem uq_ok {j : Int} (h : 0 ≤ j ∧ j ≤ 40) : OkQ 10 (uq j) := ⟨uq_nf j, Bd.of_le (bd10 (by omega)) (nt_le (by decide)), Bd.of_le (bd10 (i := 40) (by decide)) (nb_le (a := j) (b := 40) (by decide))⟩
theorem lt_cross {a b c d m n k : Int} (hb : 0 < b) (hd : 0 < d) (hk : 0 < k) (h1 : a * k = m * b) (h2 : c * k = n * d) : a * d < c * b ↔ m < n := by
  have hbd : 0 < b * d := Int.mul_pos hb hd
  have e1 : a * d * k = m * (b * d) := by grind
  have e2 : c * b * k = n * (b * d) := by grind
  constructor
  · intro h
    have h' := Int.mul_lt_mul_of_pos_right h hk
    rw [e1, e2] at h'
    exact Int.lt_of_mul_lt_mul_right h' (by omega)
  · intro h
    have h' := Int.mul_lt_mul_of_pos_right h hbd
    rw [← e1, ← e2] at h'
    exact Int.lt_of_mul_lt_mul_right h' (by omega)
theorem uq_lt (i j : Int) : ((uq i).1 * (uq j).2 < (uq j).1 * (uq i).2) ↔ i < j := lt_cross (uq_pos i) (uq_pos j) (by decide : (0 : Int) < 40) (uq_cross i) (uq_cross j)
theorem uq_le (i j : Int) : ((uq i).1 * (uq j).2 ≤ (uq j).1 * (uq i).2) ↔ i ≤ j := by
  have := uq_lt j i
  constructor
  · intro h
    rcases Int.lt_or_le j i with z | z
    · have := this.mpr z; omega
    · exact z
  · intro h
    rcases Int.lt_or_le ((uq j).1 * (uq i).2) ((uq i).1 * (uq j).2) with z | z
    · have := this.mp z; omega
    · exact z
/-- so many fortieths, told otherwise -/
theorem uq_of {a b j : Int} (h : Nf a b) (e : a * 40 = j * b) : uq j = (a, b) := by
  obtain ⟨h1, h2⟩ := (uq_nf j).same h (by have := uq_cross j; have hp := uq_pos j; apply Int.eq_of_mul_eq_mul_right (show (40 : Int) ≠ 0 by decide); grind)
  rw [← h1, ← h2]
theorem uq_0 : uq 0 = (0, 1) := by decide +kernel
theorem uq_40 : uq 40 = (1, 1) := by decide +kernel
theorem uq_den1 {j : Int} (h : (uq j).2 = 1) : (uq j).1 * 40 = j := by have := uq_cross j; rw [h] at this; omega
/-! ### walks -/
theorem comp_enc {α : Type} {enc : α → D} {f : D → MS → Res (Option D)} {m : MS} (p : α → Bool) (h : α → D) : ∀ {L : List α}, (∀ a ∈ L, f (enc a) m = .ok (if p a = true then some (h a) else none) m) → compX f (L.map enc) m = .ok ((L.filter p).map h) m
  | [], _ => rfl
  | a :: L, H => by
    rw [List.map_cons, compX_cons, H a (List.mem_cons_self ..), noX_ok, bind_ok, comp_enc p h (fun b hb => H b (List.mem_cons_of_mem _ hb)), bind_ok]
    cases q : p a <;> simp [List.filter_cons, q]
theorem comp_all {α : Type} {enc : α → D} {f : D → MS → Res (Option D)} {m : MS} (h : α → D) {L : List α} (H : ∀ a ∈ L, f (enc a) m = .ok (some (h a)) m) : compX f (L.map enc) m = .ok (L.map h) m := by
  have := comp_enc (fun _ => true) h (L := L) (f := f) (enc := enc) (m := m) (fun a ha => by rw [H a ha]; rfl)
  rw [this, List.filter_eq_self.mpr (fun _ _ => rfl)]
/-! ### steps -/
abbrev Step := Int × Q
def lst40 (p : Step) : D := .tup [prq (uq p.1), prq p.2]
def pst40 (p : Step) : D := .tup [raq (uq p.1), raq p.2]
structure OkS (L : List Step) : Prop where
  asc : L.Pairwise fun p q => p.1 < q.1
  head : ∃ q T, L = (0, q) :: T
  rng : ∀ p ∈ L, 0 ≤ p.1 ∧ p.1 ≤ 40
  rate : ∀ p ∈ L, OkQ 60 p.2 ∧ 0 ≤ p.2.1
  len : L.length ≤ 41
/-- the rate at a use -/
def rateAt (L : List Step) (j : Int) : Option Q := ((L.filter fun p => decide (p.1 ≤ j)).map (·.2)).getLast?
def few : List Step → List Step → List Step
  | acc, [] => acc
  | acc, p :: L => few (if (acc.getLast?).map (·.2) = some p.2 then acc else acc ++ [p]) L
theorem rateAt_snoc (L : List Step) (p : Step) (j : Int) : rateAt (L ++ [p]) j = if p.1 ≤ j then some p.2 else rateAt L j := by
  unfold rateAt
  rw [List.filter_append]
  by_cases h : p.1 ≤ j <;> simp [h]
/-- the last rate, where all steps are at most j -/
theorem rateAt_all {L : List Step} {j : Int} (h : ∀ p ∈ L, p.1 ≤ j) : rateAt L j = (L.getLast?).map (·.2) := by
  unfold rateAt
  rw [List.filter_eq_self.mpr (fun p hp => by simpa using h p hp), List.getLast?_map]
/-- fewest steps tell the same rates -/
theorem few_inv (L : List Step) : ∀ (done acc : List Step), (done ++ L).Pairwise (fun p q => p.1 < q.1) → (∀ p ∈ acc, p ∈ done) → (acc.getLast?).map (·.2) = (done.getLast?).map (·.2) → (∀ j, rateAt acc j = rateAt done j) →
    (∀ p ∈ few acc L, p ∈ done ++ L) ∧ ∀ j, rateAt (few acc L) j = rateAt (done ++ L) j := by
  induction L with
  | nil => intro done acc _ h1 _ h2; simp only [few, List.append_nil]; exact ⟨h1, h2⟩
  | cons p L ih =>
    intro done acc hp h1 hl h2
    have e : done ++ p :: L = (done ++ [p]) ++ L := by simp
    have hp' := hp
    rw [e] at hp'
    have lt : ∀ q ∈ done, q.1 < p.1 := fun q hq => (List.pairwise_append.mp hp).2.2 q hq p (List.mem_cons_self ..)
    have key := ih (done ++ [p]) (if (acc.getLast?).map (·.2) = some p.2 then acc else acc ++ [p]) hp' (fun q hq => by
        split at hq
        · exact List.mem_append_left _ (h1 q hq)
        · rcases List.mem_append.mp hq with z | z
          · exact List.mem_append_left _ (h1 q z)
          · exact List.mem_append_right _ z) (by
        split
        · rename_i z
          rw [z]; simp
        · simp) (fun j => by
        rw [rateAt_snoc]
        split
        · rename_i z
          by_cases hj : p.1 ≤ j
          · rw [if_pos hj, rateAt_all (fun q hq => by have := lt q (h1 q hq); omega), z]
          · rw [if_neg hj, h2]
        · rw [rateAt_snoc, h2])
    rw [e]
    exact key
theorem few_rate {L : List Step} (h : L.Pairwise fun p q => p.1 < q.1) (j : Int) : rateAt (few [] L) j = rateAt L j := (few_inv L [] [] (by simpa using h) (by simp) rfl (fun _ => rfl)).2 j
theorem few_mem {L : List Step} (h : L.Pairwise fun p q => p.1 < q.1) {p : Step} (hp : p ∈ few [] L) : p ∈ L := by
  have := (few_inv L [] [] (by simpa using h) (by simp) rfl (fun _ => rfl)).1 p hp
  simpa using this
theorem rateAt_mem {L : List Step} {j : Int} {q : Q} (h : rateAt L j = some q) : ∃ p ∈ L, p.2 = q ∧ p.1 ≤ j := by
  unfold rateAt at h
  have := List.mem_of_getLast? h
  obtain ⟨p, hp, rfl⟩ := List.mem_map.mp this
  rw [List.mem_filter] at hp
  exact ⟨p, hp.1, rfl, by simpa using hp.2⟩
theorem OkS.has {L : List Step} (h : OkS L) {j : Int} (hj : 0 ≤ j) : ∃ q, rateAt L j = some q := by
  obtain ⟨q, T, rfl⟩ := h.head
  unfold rateAt
  rw [List.filter_cons, if_pos (by simpa using hj), List.map_cons]
  exact ⟨_, List.getLast?_cons⟩
/-- the rates are those at the greatest of the steps up to there -/
theorem rate_at_step {A B : List Step} (hA : ∃ p ∈ A, p.1 = 0) {j : Int} (hj : 0 ≤ j) : ∃ p ∈ A ++ B, p.1 ≤ j ∧ rateAt A p.1 = rateAt A j ∧ rateAt B p.1 = rateAt B j := by
  -- the greatest step not above j
  have mx : ∀ (L : List Step), (∃ p ∈ L, p.1 ≤ j) → ∃ p ∈ L, p.1 ≤ j ∧ ∀ q ∈ L, q.1 ≤ j → q.1 ≤ p.1 := by
    intro L
    induction L with
    | nil => rintro ⟨p, hp, _⟩; cases hp
    | cons a L ih =>
      rintro ⟨p, hp, hpj⟩
      by_cases hL : ∃ p ∈ L, p.1 ≤ j
      · obtain ⟨b, hb, hbj, hm⟩ := ih hL
        by_cases ha : a.1 ≤ j ∧ b.1 ≤ a.1
        · exact ⟨a, List.mem_cons_self .., ha.1, fun q hq hqj => by
            rcases List.mem_cons.mp hq with rfl | hq
            · exact Int.le_refl _
            · have := hm q hq hqj; omega⟩
        · exact ⟨b, List.mem_cons_of_mem _ hb, hbj, fun q hq hqj => by
            rcases List.mem_cons.mp hq with rfl | hq
            · have : ¬ b.1 ≤ q.1 := fun z => ha ⟨hqj, z⟩
              omega
            · exact hm q hq hqj⟩
      · rcases List.mem_cons.mp hp with rfl | hp
        · exact ⟨p, List.mem_cons_self .., hpj, fun q hq hqj => by
            rcases List.mem_cons.mp hq with rfl | hq
            · exact Int.le_refl _
            · exact absurd ⟨q, hq, hqj⟩ hL⟩
        · exact absurd ⟨p, hp, hpj⟩ hL
  obtain ⟨p0, h0, e0⟩ := hA
  obtain ⟨p, hp, hpj, hm⟩ := mx (A ++ B) ⟨p0, List.mem_append_left _ h0, by omega⟩
  have same : ∀ L : List Step, (∀ q ∈ L, q ∈ A ++ B) → rateAt L p.1 = rateAt L j := fun L hL => by
    unfold rateAt
    rw [List.filter_congr (fun q hq => ?_)]
    have := hm q (hL q hq)
    by_cases z : q.1 ≤ j
    · simp [z, this z]
    · have : ¬ q.1 ≤ p.1 := by omega
      simp [z, this]
  exact ⟨p, hp, hpj, same A (fun q hq => List.mem_append_left _ hq), same B (fun q hq => List.mem_append_right _ hq)⟩
end K56
end

section
set_option linter.all false
set_option exponentiation.threshold 100000
set_option maxRecDepth 100000
set_option maxHeartbeats 1000000
namespace K56
open PySem L2 DI
open PyProof.Rows hiding St
open DI.Ev
variable {c d : Int} {y : D} {m : MS}
theorem bi_lenT (xs : List D) : biD .len [.tup xs] m = some (.int xs.length) := rfl
theorem it_lst (xs : List D) : itemsD (.lst xs) = some xs := rfl
theorem inner_lst (xs : List D) : inner m (.lst xs) = .lst xs := rfl
theorem is_amount_ok (h : Ch y c d) : m_is_amount [y] m = .ok (.bl (decide (0 ≤ c))) m := by
  have f1 : g_is_amount.fn = [m_parts] := rfl
  unfold m_is_amount ir_is_amount
  simp only [DI.Ev.ss_nil, DI.Ev.ss_cons, DI.Ev.st_try, DI.Ev.ee_0, DI.Ev.ee_1, DI.Ev.ee_2, DI.Ev.ee_3, DI.Ev.ee_4, DI.Ev.ee_5, DI.Ev.ee_6, DI.Ev.ee_7, DI.Ev.ee_8, DI.Ev.ee_9, DI.Ev.ee_10, DI.Ev.ee_11, DI.Ev.ee_12, DI.Ev.ee_13, DI.Ev.ee_14, DI.Ev.ee_15, DI.Ev.ee_16, DI.Ev.ee_17, DI.Ev.ee_18, DI.Ev.ee_19, DI.Ev.ee_20, DI.Ev.ee_21, DI.Ev.ee_22, DI.Ev.ee_23, DI.Ev.ee_24, DI.Ev.ee_25, DI.Ev.ee_26, DI.Ev.ee_27, DI.Ev.ee_28, DI.Ev.ee_29, DI.Ev.ee_30, DI.Ev.es_0, DI.Ev.es_1, DI.Ev.eo_0, DI.Ev.eo_1, DI.Ev.ec_0, DI.Ev.ec_1, DI.Ev.ei_0, DI.Ev.ei_1, DI.Ev.ei_2, DI.Ev.ei_3, DI.Ev.ei_4, DI.Ev.ei_5, DI.Ev.ei_6, DI.Ev.st_0, DI.Ev.st_1, DI.Ev.st_2, DI.Ev.st_3, DI.Ev.st_4, DI.Ev.st_5, DI.Ev.st_6, DI.Ev.st_7, DI.Ev.st_8, DI.Ev.st_9, DI.Ev.st_10, DI.Ev.st_11, DI.Ev.st_12, DI.Ev.st_13, DI.Ev.st_14, DI.Ev.st_17, DI.Ev.st_18, DI.Ev.st_19, DI.Ev.st_20, evH, DI.Ev.compX_nil, DI.Ev.compX_cons, DI.Ev.noX_ok, ↓reduceIte, DI.T.slots, DI.T.slotss, DI.wipeS, DI.Ev.bind_ok, DI.Ev.bind_exc, DI.Ev.out_ok, DI.Ev.out_exc, DI.Ev.seq_nx, DI.Ev.seq_ret, DI.Ev.seq_exc, DI.Ev.seq_brk, DI.Ev.seq_ct, DI.Ev.rnd_nx, DI.Ev.rnd_ct, DI.Ev.rnd_brk, DI.Ev.rnd_ret, DI.Ev.rnd_exc, DI.Ev.tr_nx, DI.Ev.tr_ret, DI.Ev.tr_exc, DI.Ev.fin_ret, DI.Ev.fin_nx, DI.Ev.fin_exc, DI.Ev.st_for, DI.Ev.forF_eq, DI.Ev.e_lcomp, DI.Ev.e_dcomp, DI.Ev.compF_eq, DI.Ev.compG_eq, DI.Ev.forX_cons, DI.Ev.forX_nil, DI.Ev.evF_eq, DI.Ev.nxO_some, DI.Ev.asg_var, DI.Ev.asg_tup, DI.Ev.asg_lst, DI.Ev.asgs_nil, DI.Ev.asgs_cons, DI.Ev.obind, DI.Ev.lift_some, DI.Ev.call_some, DI.Ev.bin_add, DI.Ev.bin_sub, DI.Ev.negD_int, DI.Ev.cmp_lt, DI.Ev.cmp_le, DI.Ev.cmp_gt, DI.Ev.cmp_ge, DI.Ev.cmp_eqI, DI.Ev.cmp_neI, DI.Ev.cmp_eqB, DI.Ev.cmp_neB, DI.Ev.cmp_eqT, splD, List.length_cons, List.length_nil, Nat.reduceAdd, Nat.reduceSub, Nat.reduceLeDiff, Nat.reduceLT, Nat.le_refl, List.cons_append, List.nil_append, List.append_nil, List.map_cons, List.map_nil, List.replicate, List.getElem?_cons_zero, List.getElem?_cons_succ, List.getElem?_nil, List.set_cons_zero, List.set_cons_succ, if_true, if_false, ite_true, ite_false, and_self, and_true, true_and, reduceCtorEq, Bool.not_true, Bool.not_false, decide_true, decide_false, maxLen, f1, h.pa, idx_tup, atI_0]
theorem is_use_ok (h : Nu y c d) (sc : Sm c) (sd : Sm d) : m_is_use [y] m = .ok (.bl (decide (0 ≤ c) && decide (c * 1 ≤ 1 * d))) m := by
  have f1 : g_is_use.fn = [m_as_ratio, m_is_amount] := rfl
  have c1 : ∀ m, cmpD g_is_use .le (rat c d) (.int 1) m = .ok (.bl (decide (c * 1 ≤ 1 * d))) m := fun m => cmp_leR _ (ch_int 1) sc sd (sm_of (by decide)) (sm_of (by decide))
  unfold m_is_use ir_is_use
  by_cases z : 0 ≤ c <;>
  simp only [DI.Ev.ss_nil, DI.Ev.ss_cons, DI.Ev.st_try, DI.Ev.ee_0, DI.Ev.ee_1, DI.Ev.ee_2, DI.Ev.ee_3, DI.Ev.ee_4, DI.Ev.ee_5, DI.Ev.ee_6, DI.Ev.ee_7, DI.Ev.ee_8, DI.Ev.ee_9, DI.Ev.ee_10, DI.Ev.ee_11, DI.Ev.ee_12, DI.Ev.ee_13, DI.Ev.ee_14, DI.Ev.ee_15, DI.Ev.ee_16, DI.Ev.ee_17, DI.Ev.ee_18, DI.Ev.ee_19, DI.Ev.ee_20, DI.Ev.ee_21, DI.Ev.ee_22, DI.Ev.ee_23, DI.Ev.ee_24, DI.Ev.ee_25, DI.Ev.ee_26, DI.Ev.ee_27, DI.Ev.ee_28, DI.Ev.ee_29, DI.Ev.ee_30, DI.Ev.es_0, DI.Ev.es_1, DI.Ev.eo_0, DI.Ev.eo_1, DI.Ev.ec_0, DI.Ev.ec_1, DI.Ev.ei_0, DI.Ev.ei_1, DI.Ev.ei_2, DI.Ev.ei_3, DI.Ev.ei_4, DI.Ev.ei_5, DI.Ev.ei_6, DI.Ev.st_0, DI.Ev.st_1, DI.Ev.st_2, DI.Ev.st_3, DI.Ev.st_4, DI.Ev.st_5, DI.Ev.st_6, DI.Ev.st_7, DI.Ev.st_8, DI.Ev.st_9, DI.Ev.st_10, DI.Ev.st_11, DI.Ev.st_12, DI.Ev.st_13, DI.Ev.st_14, DI.Ev.st_17, DI.Ev.st_18, DI.Ev.st_19, DI.Ev.st_20, evH, DI.Ev.compX_nil, DI.Ev.compX_cons, DI.Ev.noX_ok, ↓reduceIte, DI.T.slots, DI.T.slotss, DI.wipeS, DI.Ev.bind_ok, DI.Ev.bind_exc, DI.Ev.out_ok, DI.Ev.out_exc, DI.Ev.seq_nx, DI.Ev.seq_ret, DI.Ev.seq_exc, DI.Ev.seq_brk, DI.Ev.seq_ct, DI.Ev.rnd_nx, DI.Ev.rnd_ct, DI.Ev.rnd_brk, DI.Ev.rnd_ret, DI.Ev.rnd_exc, DI.Ev.tr_nx, DI.Ev.tr_ret, DI.Ev.tr_exc, DI.Ev.fin_ret, DI.Ev.fin_nx, DI.Ev.fin_exc, DI.Ev.st_for, DI.Ev.forF_eq, DI.Ev.e_lcomp, DI.Ev.e_dcomp, DI.Ev.compF_eq, DI.Ev.compG_eq, DI.Ev.forX_cons, DI.Ev.forX_nil, DI.Ev.evF_eq, DI.Ev.nxO_some, DI.Ev.asg_var, DI.Ev.asg_tup, DI.Ev.asg_lst, DI.Ev.asgs_nil, DI.Ev.asgs_cons, DI.Ev.obind, DI.Ev.lift_some, DI.Ev.call_some, DI.Ev.bin_add, DI.Ev.bin_sub, DI.Ev.negD_int, DI.Ev.cmp_lt, DI.Ev.cmp_le, DI.Ev.cmp_gt, DI.Ev.cmp_ge, DI.Ev.cmp_eqI, DI.Ev.cmp_neI, DI.Ev.cmp_eqB, DI.Ev.cmp_neB, DI.Ev.cmp_eqT, splD, List.length_cons, List.length_nil, Nat.reduceAdd, Nat.reduceSub, Nat.reduceLeDiff, Nat.reduceLT, Nat.le_refl, List.cons_append, List.nil_append, List.append_nil, List.map_cons, List.map_nil, List.replicate, List.getElem?_cons_zero, List.getElem?_cons_succ, List.getElem?_nil, List.set_cons_zero, List.set_cons_succ, if_true, if_false, ite_true, ite_false, and_self, and_true, true_and, reduceCtorEq, Bool.not_true, Bool.not_false, decide_true, decide_false, maxLen, f1, is_amount_ok h.ch, z, as_ratio_nf h.ch h.nf sd, c1, Bool.true_and, Bool.false_and]
theorem check_use_ok (h : Nu y c d) (sc : Sm c) (sd : Sm d) (h0 : 0 ≤ c) (h1 : c * 1 ≤ 1 * d) : m_check_use [y] m = .ok .non m := by
  have f1 : g_check_use.fn = [m_is_use] := rfl
  unfold m_check_use ir_check_use
  simp only [DI.Ev.ss_nil, DI.Ev.ss_cons, DI.Ev.st_try, DI.Ev.ee_0, DI.Ev.ee_1, DI.Ev.ee_2, DI.Ev.ee_3, DI.Ev.ee_4, DI.Ev.ee_5, DI.Ev.ee_6, DI.Ev.ee_7, DI.Ev.ee_8, DI.Ev.ee_9, DI.Ev.ee_10, DI.Ev.ee_11, DI.Ev.ee_12, DI.Ev.ee_13, DI.Ev.ee_14, DI.Ev.ee_15, DI.Ev.ee_16, DI.Ev.ee_17, DI.Ev.ee_18, DI.Ev.ee_19, DI.Ev.ee_20, DI.Ev.ee_21, DI.Ev.ee_22, DI.Ev.ee_23, DI.Ev.ee_24, DI.Ev.ee_25, DI.Ev.ee_26, DI.Ev.ee_27, DI.Ev.ee_28, DI.Ev.ee_29, DI.Ev.ee_30, DI.Ev.es_0, DI.Ev.es_1, DI.Ev.eo_0, DI.Ev.eo_1, DI.Ev.ec_0, DI.Ev.ec_1, DI.Ev.ei_0, DI.Ev.ei_1, DI.Ev.ei_2, DI.Ev.ei_3, DI.Ev.ei_4, DI.Ev.ei_5, DI.Ev.ei_6, DI.Ev.st_0, DI.Ev.st_1, DI.Ev.st_2, DI.Ev.st_3, DI.Ev.st_4, DI.Ev.st_5, DI.Ev.st_6, DI.Ev.st_7, DI.Ev.st_8, DI.Ev.st_9, DI.Ev.st_10, DI.Ev.st_11, DI.Ev.st_12, DI.Ev.st_13, DI.Ev.st_14, DI.Ev.st_17, DI.Ev.st_18, DI.Ev.st_19, DI.Ev.st_20, evH, DI.Ev.compX_nil, DI.Ev.compX_cons, DI.Ev.noX_ok, ↓reduceIte, DI.T.slots, DI.T.slotss, DI.wipeS, DI.Ev.bind_ok, DI.Ev.bind_exc, DI.Ev.out_ok, DI.Ev.out_exc, DI.Ev.seq_nx, DI.Ev.seq_ret, DI.Ev.seq_exc, DI.Ev.seq_brk, DI.Ev.seq_ct, DI.Ev.rnd_nx, DI.Ev.rnd_ct, DI.Ev.rnd_brk, DI.Ev.rnd_ret, DI.Ev.rnd_exc, DI.Ev.tr_nx, DI.Ev.tr_ret, DI.Ev.tr_exc, DI.Ev.fin_ret, DI.Ev.fin_nx, DI.Ev.fin_exc, DI.Ev.st_for, DI.Ev.forF_eq, DI.Ev.e_lcomp, DI.Ev.e_dcomp, DI.Ev.compF_eq, DI.Ev.compG_eq, DI.Ev.forX_cons, DI.Ev.forX_nil, DI.Ev.evF_eq, DI.Ev.nxO_some, DI.Ev.asg_var, DI.Ev.asg_tup, DI.Ev.asg_lst, DI.Ev.asgs_nil, DI.Ev.asgs_cons, DI.Ev.obind, DI.Ev.lift_some, DI.Ev.call_some, DI.Ev.bin_add, DI.Ev.bin_sub, DI.Ev.negD_int, DI.Ev.cmp_lt, DI.Ev.cmp_le, DI.Ev.cmp_gt, DI.Ev.cmp_ge, DI.Ev.cmp_eqI, DI.Ev.cmp_neI, DI.Ev.cmp_eqB, DI.Ev.cmp_neB, DI.Ev.cmp_eqT, splD, List.length_cons, List.length_nil, Nat.reduceAdd, Nat.reduceSub, Nat.reduceLeDiff, Nat.reduceLT, Nat.le_refl, List.cons_append, List.nil_append, List.append_nil, List.map_cons, List.map_nil, List.replicate, List.getElem?_cons_zero, List.getElem?_cons_succ, List.getElem?_nil, List.set_cons_zero, List.set_cons_succ, if_true, if_false, ite_true, ite_false, and_self, and_true, true_and, reduceCtorEq, Bool.not_true, Bool.not_false, decide_true, decide_false, maxLen, f1, is_use_ok h sc sd, h0, h1, Bool.and_self]
theorem check_use_no (h : Nu y c d) (sc : Sm c) (sd : Sm d) (h1 : ¬ (0 ≤ c ∧ c * 1 ≤ 1 * d)) : m_check_use [y] m = .exc ⟨"BadUse", some y⟩ m := by
  have f1 : g_check_use.fn = [m_is_use] := rfl
  have e : (decide (0 ≤ c) && decide (c * 1 ≤ 1 * d)) = false := by
    rw [← Bool.decide_and]; simpa using h1
  unfold m_check_use ir_check_use
  simp only [DI.Ev.ss_nil, DI.Ev.ss_cons, DI.Ev.st_try, DI.Ev.ee_0, DI.Ev.ee_1, DI.Ev.ee_2, DI.Ev.ee_3, DI.Ev.ee_4, DI.Ev.ee_5, DI.Ev.ee_6, DI.Ev.ee_7, DI.Ev.ee_8, DI.Ev.ee_9, DI.Ev.ee_10, DI.Ev.ee_11, DI.Ev.ee_12, DI.Ev.ee_13, DI.Ev.ee_14, DI.Ev.ee_15, DI.Ev.ee_16, DI.Ev.ee_17, DI.Ev.ee_18, DI.Ev.ee_19, DI.Ev.ee_20, DI.Ev.ee_21, DI.Ev.ee_22, DI.Ev.ee_23, DI.Ev.ee_24, DI.Ev.ee_25, DI.Ev.ee_26, DI.Ev.ee_27, DI.Ev.ee_28, DI.Ev.ee_29, DI.Ev.ee_30, DI.Ev.es_0, DI.Ev.es_1, DI.Ev.eo_0, DI.Ev.eo_1, DI.Ev.ec_0, DI.Ev.ec_1, DI.Ev.ei_0, DI.Ev.ei_1, DI.Ev.ei_2, DI.Ev.ei_3, DI.Ev.ei_4, DI.Ev.ei_5, DI.Ev.ei_6, DI.Ev.st_0, DI.Ev.st_1, DI.Ev.st_2, DI.Ev.st_3, DI.Ev.st_4, DI.Ev.st_5, DI.Ev.st_6, DI.Ev.st_7, DI.Ev.st_8, DI.Ev.st_9, DI.Ev.st_10, DI.Ev.st_11, DI.Ev.st_12, DI.Ev.st_13, DI.Ev.st_14, DI.Ev.st_17, DI.Ev.st_18, DI.Ev.st_19, DI.Ev.st_20, evH, DI.Ev.compX_nil, DI.Ev.compX_cons, DI.Ev.noX_ok, ↓reduceIte, DI.T.slots, DI.T.slotss, DI.wipeS, DI.Ev.bind_ok, DI.Ev.bind_exc, DI.Ev.out_ok, DI.Ev.out_exc, DI.Ev.seq_nx, DI.Ev.seq_ret, DI.Ev.seq_exc, DI.Ev.seq_brk, DI.Ev.seq_ct, DI.Ev.rnd_nx, DI.Ev.rnd_ct, DI.Ev.rnd_brk, DI.Ev.rnd_ret, DI.Ev.rnd_exc, DI.Ev.tr_nx, DI.Ev.tr_ret, DI.Ev.tr_exc, DI.Ev.fin_ret, DI.Ev.fin_nx, DI.Ev.fin_exc, DI.Ev.st_for, DI.Ev.forF_eq, DI.Ev.e_lcomp, DI.Ev.e_dcomp, DI.Ev.compF_eq, DI.Ev.compG_eq, DI.Ev.forX_cons, DI.Ev.forX_nil, DI.Ev.evF_eq, DI.Ev.nxO_some, DI.Ev.asg_var, DI.Ev.asg_tup, DI.Ev.asg_lst, DI.Ev.asgs_nil, DI.Ev.asgs_cons, DI.Ev.obind, DI.Ev.lift_some, DI.Ev.call_some, DI.Ev.bin_add, DI.Ev.bin_sub, DI.Ev.negD_int, DI.Ev.cmp_lt, DI.Ev.cmp_le, DI.Ev.cmp_gt, DI.Ev.cmp_ge, DI.Ev.cmp_eqI, DI.Ev.cmp_neI, DI.Ev.cmp_eqB, DI.Ev.cmp_neB, DI.Ev.cmp_eqT, splD, List.length_cons, List.length_nil, Nat.reduceAdd, Nat.reduceSub, Nat.reduceLeDiff, Nat.reduceLT, Nat.le_refl, List.cons_append, List.nil_append, List.append_nil, List.map_cons, List.map_nil, List.replicate, List.getElem?_cons_zero, List.getElem?_cons_succ, List.getElem?_nil, List.set_cons_zero, List.set_cons_succ, if_true, if_false, ite_true, ite_false, and_self, and_true, true_and, reduceCtorEq, Bool.not_true, Bool.not_false, decide_true, decide_false, maxLen, f1, is_use_ok h sc sd, e]
/-- y is no number -/
theorem is_integer_ty {k : Kd} (h : tyN m y = some k) : m_is_integer [y] m = .ok (.bl (kdIs k .int && !kdIs k .bool)) m := by
  unfold m_is_integer ir_is_integer
  cases k <;> simp only [DI.Ev.ss_nil, DI.Ev.ss_cons, DI.Ev.st_try, DI.Ev.ee_0, DI.Ev.ee_1, DI.Ev.ee_2, DI.Ev.ee_3, DI.Ev.ee_4, DI.Ev.ee_5, DI.Ev.ee_6, DI.Ev.ee_7, DI.Ev.ee_8, DI.Ev.ee_9, DI.Ev.ee_10, DI.Ev.ee_11, DI.Ev.ee_12, DI.Ev.ee_13, DI.Ev.ee_14, DI.Ev.ee_15, DI.Ev.ee_16, DI.Ev.ee_17, DI.Ev.ee_18, DI.Ev.ee_19, DI.Ev.ee_20, DI.Ev.ee_21, DI.Ev.ee_22, DI.Ev.ee_23, DI.Ev.ee_24, DI.Ev.ee_25, DI.Ev.ee_26, DI.Ev.ee_27, DI.Ev.ee_28, DI.Ev.ee_29, DI.Ev.ee_30, DI.Ev.es_0, DI.Ev.es_1, DI.Ev.eo_0, DI.Ev.eo_1, DI.Ev.ec_0, DI.Ev.ec_1, DI.Ev.ei_0, DI.Ev.ei_1, DI.Ev.ei_2, DI.Ev.ei_3, DI.Ev.ei_4, DI.Ev.ei_5, DI.Ev.ei_6, DI.Ev.st_0, DI.Ev.st_1, DI.Ev.st_2, DI.Ev.st_3, DI.Ev.st_4, DI.Ev.st_5, DI.Ev.st_6, DI.Ev.st_7, DI.Ev.st_8, DI.Ev.st_9, DI.Ev.st_10, DI.Ev.st_11, DI.Ev.st_12, DI.Ev.st_13, DI.Ev.st_14, DI.Ev.st_17, DI.Ev.st_18, DI.Ev.st_19, DI.Ev.st_20, evH, DI.Ev.compX_nil, DI.Ev.compX_cons, DI.Ev.noX_ok, ↓reduceIte, DI.T.slots, DI.T.slotss, DI.wipeS, DI.Ev.bind_ok, DI.Ev.bind_exc, DI.Ev.out_ok, DI.Ev.out_exc, DI.Ev.seq_nx, DI.Ev.seq_ret, DI.Ev.seq_exc, DI.Ev.seq_brk, DI.Ev.seq_ct, DI.Ev.rnd_nx, DI.Ev.rnd_ct, DI.Ev.rnd_brk, DI.Ev.rnd_ret, DI.Ev.rnd_exc, DI.Ev.tr_nx, DI.Ev.tr_ret, DI.Ev.tr_exc, DI.Ev.fin_ret, DI.Ev.fin_nx, DI.Ev.fin_exc, DI.Ev.st_for, DI.Ev.forF_eq, DI.Ev.e_lcomp, DI.Ev.e_dcomp, DI.Ev.compF_eq, DI.Ev.compG_eq, DI.Ev.forX_cons, DI.Ev.forX_nil, DI.Ev.evF_eq, DI.Ev.nxO_some, DI.Ev.asg_var, DI.Ev.asg_tup, DI.Ev.asg_lst, DI.Ev.asgs_nil, DI.Ev.asgs_cons, DI.Ev.obind, DI.Ev.lift_some, DI.Ev.call_some, DI.Ev.bin_add, DI.Ev.bin_sub, DI.Ev.negD_int, DI.Ev.cmp_lt, DI.Ev.cmp_le, DI.Ev.cmp_gt, DI.Ev.cmp_ge, DI.Ev.cmp_eqI, DI.Ev.cmp_neI, DI.Ev.cmp_eqB, DI.Ev.cmp_neB, DI.Ev.cmp_eqT, splD, List.length_cons, List.length_nil, Nat.reduceAdd, Nat.reduceSub, Nat.reduceLeDiff, Nat.reduceLT, Nat.le_refl, List.cons_append, List.nil_append, List.append_nil, List.map_cons, List.map_nil, List.replicate, List.getElem?_cons_zero, List.getElem?_cons_succ, List.getElem?_nil, List.set_cons_zero, List.set_cons_succ, if_true, if_false, ite_true, ite_false, and_self, and_true, true_and, reduceCtorEq, Bool.not_true, Bool.not_false, decide_true, decide_false, maxLen, h, List.any_cons, List.any_nil, kdIs, Bool.or_false, Bool.and_true, Bool.and_false, Bool.true_and, Bool.false_and]
theorem parts_no {k : Kd} (h : ∀ m, tyN m y = some k) (h1 : (kdIs k .int && !kdIs k .bool) = false) (h2 : kdIs k (.cls 0) = false) : m_parts [y] m = .ok .non m := by
  have f1 : g_parts.fn = [m_is_integer] := rfl
  unfold m_parts ir_parts
  simp only [DI.Ev.ss_nil, DI.Ev.ss_cons, DI.Ev.st_try, DI.Ev.ee_0, DI.Ev.ee_1, DI.Ev.ee_2, DI.Ev.ee_3, DI.Ev.ee_4, DI.Ev.ee_5, DI.Ev.ee_6, DI.Ev.ee_7, DI.Ev.ee_8, DI.Ev.ee_9, DI.Ev.ee_10, DI.Ev.ee_11, DI.Ev.ee_12, DI.Ev.ee_13, DI.Ev.ee_14, DI.Ev.ee_15, DI.Ev.ee_16, DI.Ev.ee_17, DI.Ev.ee_18, DI.Ev.ee_19, DI.Ev.ee_20, DI.Ev.ee_21, DI.Ev.ee_22, DI.Ev.ee_23, DI.Ev.ee_24, DI.Ev.ee_25, DI.Ev.ee_26, DI.Ev.ee_27, DI.Ev.ee_28, DI.Ev.ee_29, DI.Ev.ee_30, DI.Ev.es_0, DI.Ev.es_1, DI.Ev.eo_0, DI.Ev.eo_1, DI.Ev.ec_0, DI.Ev.ec_1, DI.Ev.ei_0, DI.Ev.ei_1, DI.Ev.ei_2, DI.Ev.ei_3, DI.Ev.ei_4, DI.Ev.ei_5, DI.Ev.ei_6, DI.Ev.st_0, DI.Ev.st_1, DI.Ev.st_2, DI.Ev.st_3, DI.Ev.st_4, DI.Ev.st_5, DI.Ev.st_6, DI.Ev.st_7, DI.Ev.st_8, DI.Ev.st_9, DI.Ev.st_10, DI.Ev.st_11, DI.Ev.st_12, DI.Ev.st_13, DI.Ev.st_14, DI.Ev.st_17, DI.Ev.st_18, DI.Ev.st_19, DI.Ev.st_20, evH, DI.Ev.compX_nil, DI.Ev.compX_cons, DI.Ev.noX_ok, ↓reduceIte, DI.T.slots, DI.T.slotss, DI.wipeS, DI.Ev.bind_ok, DI.Ev.bind_exc, DI.Ev.out_ok, DI.Ev.out_exc, DI.Ev.seq_nx, DI.Ev.seq_ret, DI.Ev.seq_exc, DI.Ev.seq_brk, DI.Ev.seq_ct, DI.Ev.rnd_nx, DI.Ev.rnd_ct, DI.Ev.rnd_brk, DI.Ev.rnd_ret, DI.Ev.rnd_exc, DI.Ev.tr_nx, DI.Ev.tr_ret, DI.Ev.tr_exc, DI.Ev.fin_ret, DI.Ev.fin_nx, DI.Ev.fin_exc, DI.Ev.st_for, DI.Ev.forF_eq, DI.Ev.e_lcomp, DI.Ev.e_dcomp, DI.Ev.compF_eq, DI.Ev.compG_eq, DI.Ev.forX_cons, DI.Ev.forX_nil, DI.Ev.evF_eq, DI.Ev.nxO_some, DI.Ev.asg_var, DI.Ev.asg_tup, DI.Ev.asg_lst, DI.Ev.asgs_nil, DI.Ev.asgs_cons, DI.Ev.obind, DI.Ev.lift_some, DI.Ev.call_some, DI.Ev.bin_add, DI.Ev.bin_sub, DI.Ev.negD_int, DI.Ev.cmp_lt, DI.Ev.cmp_le, DI.Ev.cmp_gt, DI.Ev.cmp_ge, DI.Ev.cmp_eqI, DI.Ev.cmp_neI, DI.Ev.cmp_eqB, DI.Ev.cmp_neB, DI.Ev.cmp_eqT, splD, List.length_cons, List.length_nil, Nat.reduceAdd, Nat.reduceSub, Nat.reduceLeDiff, Nat.reduceLT, Nat.le_refl, List.cons_append, List.nil_append, List.append_nil, List.map_cons, List.map_nil, List.replicate, List.getElem?_cons_zero, List.getElem?_cons_succ, List.getElem?_nil, List.set_cons_zero, List.set_cons_succ, if_true, if_false, ite_true, ite_false, and_self, and_true, true_and, reduceCtorEq, Bool.not_true, Bool.not_false, decide_true, decide_false, maxLen, f1, is_integer_ty (h _), h, h1, h2, List.any_cons, List.any_nil, Bool.or_false]
theorem check_use_other (h : ∀ m, m_parts [y] m = .ok .non m) : m_check_use [y] m = .exc ⟨"BadUse", some y⟩ m := by
  have f1 : g_check_use.fn = [m_is_use] := rfl
  have f2 : g_is_use.fn = [m_as_ratio, m_is_amount] := rfl
  have f3 : g_is_amount.fn = [m_parts] := rfl
  have e1 : ∀ m, m_is_amount [y] m = .ok (.bl false) m := fun m => by
    unfold m_is_amount ir_is_amount
    simp only [DI.Ev.ss_nil, DI.Ev.ss_cons, DI.Ev.st_try, DI.Ev.ee_0, DI.Ev.ee_1, DI.Ev.ee_2, DI.Ev.ee_3, DI.Ev.ee_4, DI.Ev.ee_5, DI.Ev.ee_6, DI.Ev.ee_7, DI.Ev.ee_8, DI.Ev.ee_9, DI.Ev.ee_10, DI.Ev.ee_11, DI.Ev.ee_12, DI.Ev.ee_13, DI.Ev.ee_14, DI.Ev.ee_15, DI.Ev.ee_16, DI.Ev.ee_17, DI.Ev.ee_18, DI.Ev.ee_19, DI.Ev.ee_20, DI.Ev.ee_21, DI.Ev.ee_22, DI.Ev.ee_23, DI.Ev.ee_24, DI.Ev.ee_25, DI.Ev.ee_26, DI.Ev.ee_27, DI.Ev.ee_28, DI.Ev.ee_29, DI.Ev.ee_30, DI.Ev.es_0, DI.Ev.es_1, DI.Ev.eo_0, DI.Ev.eo_1, DI.Ev.ec_0, DI.Ev.ec_1, DI.Ev.ei_0, DI.Ev.ei_1, DI.Ev.ei_2, DI.Ev.ei_3, DI.Ev.ei_4, DI.Ev.ei_5, DI.Ev.ei_6, DI.Ev.st_0, DI.Ev.st_1, DI.Ev.st_2, DI.Ev.st_3, DI.Ev.st_4, DI.Ev.st_5, DI.Ev.st_6, DI.Ev.st_7, DI.Ev.st_8, DI.Ev.st_9, DI.Ev.st_10, DI.Ev.st_11, DI.Ev.st_12, DI.Ev.st_13, DI.Ev.st_14, DI.Ev.st_17, DI.Ev.st_18, DI.Ev.st_19, DI.Ev.st_20, evH, DI.Ev.compX_nil, DI.Ev.compX_cons, DI.Ev.noX_ok, ↓reduceIte, DI.T.slots, DI.T.slotss, DI.wipeS, DI.Ev.bind_ok, DI.Ev.bind_exc, DI.Ev.out_ok, DI.Ev.out_exc, DI.Ev.seq_nx, DI.Ev.seq_ret, DI.Ev.seq_exc, DI.Ev.seq_brk, DI.Ev.seq_ct, DI.Ev.rnd_nx, DI.Ev.rnd_ct, DI.Ev.rnd_brk, DI.Ev.rnd_ret, DI.Ev.rnd_exc, DI.Ev.tr_nx, DI.Ev.tr_ret, DI.Ev.tr_exc, DI.Ev.fin_ret, DI.Ev.fin_nx, DI.Ev.fin_exc, DI.Ev.st_for, DI.Ev.forF_eq, DI.Ev.e_lcomp, DI.Ev.e_dcomp, DI.Ev.compF_eq, DI.Ev.compG_eq, DI.Ev.forX_cons, DI.Ev.forX_nil, DI.Ev.evF_eq, DI.Ev.nxO_some, DI.Ev.asg_var, DI.Ev.asg_tup, DI.Ev.asg_lst, DI.Ev.asgs_nil, DI.Ev.asgs_cons, DI.Ev.obind, DI.Ev.lift_some, DI.Ev.call_some, DI.Ev.bin_add, DI.Ev.bin_sub, DI.Ev.negD_int, DI.Ev.cmp_lt, DI.Ev.cmp_le, DI.Ev.cmp_gt, DI.Ev.cmp_ge, DI.Ev.cmp_eqI, DI.Ev.cmp_neI, DI.Ev.cmp_eqB, DI.Ev.cmp_neB, DI.Ev.cmp_eqT, splD, List.length_cons, List.length_nil, Nat.reduceAdd, Nat.reduceSub, Nat.reduceLeDiff, Nat.reduceLT, Nat.le_refl, List.cons_append, List.nil_append, List.append_nil, List.map_cons, List.map_nil, List.replicate, List.getElem?_cons_zero, List.getElem?_cons_succ, List.getElem?_nil, List.set_cons_zero, List.set_cons_succ, if_true, if_false, ite_true, ite_false, and_self, and_true, true_and, reduceCtorEq, Bool.not_true, Bool.not_false, decide_true, decide_false, maxLen, f3, h]
  have e2 : ∀ m, m_is_use [y] m = .ok (.bl false) m := fun m => by
    unfold m_is_use ir_is_use
    simp only [DI.Ev.ss_nil, DI.Ev.ss_cons, DI.Ev.st_try, DI.Ev.ee_0, DI.Ev.ee_1, DI.Ev.ee_2, DI.Ev.ee_3, DI.Ev.ee_4, DI.Ev.ee_5, DI.Ev.ee_6, DI.Ev.ee_7, DI.Ev.ee_8, DI.Ev.ee_9, DI.Ev.ee_10, DI.Ev.ee_11, DI.Ev.ee_12, DI.Ev.ee_13, DI.Ev.ee_14, DI.Ev.ee_15, DI.Ev.ee_16, DI.Ev.ee_17, DI.Ev.ee_18, DI.Ev.ee_19, DI.Ev.ee_20, DI.Ev.ee_21, DI.Ev.ee_22, DI.Ev.ee_23, DI.Ev.ee_24, DI.Ev.ee_25, DI.Ev.ee_26, DI.Ev.ee_27, DI.Ev.ee_28, DI.Ev.ee_29, DI.Ev.ee_30, DI.Ev.es_0, DI.Ev.es_1, DI.Ev.eo_0, DI.Ev.eo_1, DI.Ev.ec_0, DI.Ev.ec_1, DI.Ev.ei_0, DI.Ev.ei_1, DI.Ev.ei_2, DI.Ev.ei_3, DI.Ev.ei_4, DI.Ev.ei_5, DI.Ev.ei_6, DI.Ev.st_0, DI.Ev.st_1, DI.Ev.st_2, DI.Ev.st_3, DI.Ev.st_4, DI.Ev.st_5, DI.Ev.st_6, DI.Ev.st_7, DI.Ev.st_8, DI.Ev.st_9, DI.Ev.st_10, DI.Ev.st_11, DI.Ev.st_12, DI.Ev.st_13, DI.Ev.st_14, DI.Ev.st_17, DI.Ev.st_18, DI.Ev.st_19, DI.Ev.st_20, evH, DI.Ev.compX_nil, DI.Ev.compX_cons, DI.Ev.noX_ok, ↓reduceIte, DI.T.slots, DI.T.slotss, DI.wipeS, DI.Ev.bind_ok, DI.Ev.bind_exc, DI.Ev.out_ok, DI.Ev.out_exc, DI.Ev.seq_nx, DI.Ev.seq_ret, DI.Ev.seq_exc, DI.Ev.seq_brk, DI.Ev.seq_ct, DI.Ev.rnd_nx, DI.Ev.rnd_ct, DI.Ev.rnd_brk, DI.Ev.rnd_ret, DI.Ev.rnd_exc, DI.Ev.tr_nx, DI.Ev.tr_ret, DI.Ev.tr_exc, DI.Ev.fin_ret, DI.Ev.fin_nx, DI.Ev.fin_exc, DI.Ev.st_for, DI.Ev.forF_eq, DI.Ev.e_lcomp, DI.Ev.e_dcomp, DI.Ev.compF_eq, DI.Ev.compG_eq, DI.Ev.forX_cons, DI.Ev.forX_nil, DI.Ev.evF_eq, DI.Ev.nxO_some, DI.Ev.asg_var, DI.Ev.asg_tup, DI.Ev.asg_lst, DI.Ev.asgs_nil, DI.Ev.asgs_cons, DI.Ev.obind, DI.Ev.lift_some, DI.Ev.call_some, DI.Ev.bin_add, DI.Ev.bin_sub, DI.Ev.negD_int, DI.Ev.cmp_lt, DI.Ev.cmp_le, DI.Ev.cmp_gt, DI.Ev.cmp_ge, DI.Ev.cmp_eqI, DI.Ev.cmp_neI, DI.Ev.cmp_eqB, DI.Ev.cmp_neB, DI.Ev.cmp_eqT, splD, List.length_cons, List.length_nil, Nat.reduceAdd, Nat.reduceSub, Nat.reduceLeDiff, Nat.reduceLT, Nat.le_refl, List.cons_append, List.nil_append, List.append_nil, List.map_cons, List.map_nil, List.replicate, List.getElem?_cons_zero, List.getElem?_cons_succ, List.getElem?_nil, List.set_cons_zero, List.set_cons_succ, if_true, if_false, ite_true, ite_false, and_self, and_true, true_and, reduceCtorEq, Bool.not_true, Bool.not_false, decide_true, decide_false, maxLen, f2, e1]
  unfold m_check_use ir_check_use
  simp only [DI.Ev.ss_nil, DI.Ev.ss_cons, DI.Ev.st_try, DI.Ev.ee_0, DI.Ev.ee_1, DI.Ev.ee_2, DI.Ev.ee_3, DI.Ev.ee_4, DI.Ev.ee_5, DI.Ev.ee_6, DI.Ev.ee_7, DI.Ev.ee_8, DI.Ev.ee_9, DI.Ev.ee_10, DI.Ev.ee_11, DI.Ev.ee_12, DI.Ev.ee_13, DI.Ev.ee_14, DI.Ev.ee_15, DI.Ev.ee_16, DI.Ev.ee_17, DI.Ev.ee_18, DI.Ev.ee_19, DI.Ev.ee_20, DI.Ev.ee_21, DI.Ev.ee_22, DI.Ev.ee_23, DI.Ev.ee_24, DI.Ev.ee_25, DI.Ev.ee_26, DI.Ev.ee_27, DI.Ev.ee_28, DI.Ev.ee_29, DI.Ev.ee_30, DI.Ev.es_0, DI.Ev.es_1, DI.Ev.eo_0, DI.Ev.eo_1, DI.Ev.ec_0, DI.Ev.ec_1, DI.Ev.ei_0, DI.Ev.ei_1, DI.Ev.ei_2, DI.Ev.ei_3, DI.Ev.ei_4, DI.Ev.ei_5, DI.Ev.ei_6, DI.Ev.st_0, DI.Ev.st_1, DI.Ev.st_2, DI.Ev.st_3, DI.Ev.st_4, DI.Ev.st_5, DI.Ev.st_6, DI.Ev.st_7, DI.Ev.st_8, DI.Ev.st_9, DI.Ev.st_10, DI.Ev.st_11, DI.Ev.st_12, DI.Ev.st_13, DI.Ev.st_14, DI.Ev.st_17, DI.Ev.st_18, DI.Ev.st_19, DI.Ev.st_20, evH, DI.Ev.compX_nil, DI.Ev.compX_cons, DI.Ev.noX_ok, ↓reduceIte, DI.T.slots, DI.T.slotss, DI.wipeS, DI.Ev.bind_ok, DI.Ev.bind_exc, DI.Ev.out_ok, DI.Ev.out_exc, DI.Ev.seq_nx, DI.Ev.seq_ret, DI.Ev.seq_exc, DI.Ev.seq_brk, DI.Ev.seq_ct, DI.Ev.rnd_nx, DI.Ev.rnd_ct, DI.Ev.rnd_brk, DI.Ev.rnd_ret, DI.Ev.rnd_exc, DI.Ev.tr_nx, DI.Ev.tr_ret, DI.Ev.tr_exc, DI.Ev.fin_ret, DI.Ev.fin_nx, DI.Ev.fin_exc, DI.Ev.st_for, DI.Ev.forF_eq, DI.Ev.e_lcomp, DI.Ev.e_dcomp, DI.Ev.compF_eq, DI.Ev.compG_eq, DI.Ev.forX_cons, DI.Ev.forX_nil, DI.Ev.evF_eq, DI.Ev.nxO_some, DI.Ev.asg_var, DI.Ev.asg_tup, DI.Ev.asg_lst, DI.Ev.asgs_nil, DI.Ev.asgs_cons, DI.Ev.obind, DI.Ev.lift_some, DI.Ev.call_some, DI.Ev.bin_add, DI.Ev.bin_sub, DI.Ev.negD_int, DI.Ev.cmp_lt, DI.Ev.cmp_le, DI.Ev.cmp_gt, DI.Ev.cmp_ge, DI.Ev.cmp_eqI, DI.Ev.cmp_neI, DI.Ev.cmp_eqB, DI.Ev.cmp_neB, DI.Ev.cmp_eqT, splD, List.length_cons, List.length_nil, Nat.reduceAdd, Nat.reduceSub, Nat.reduceLeDiff, Nat.reduceLT, Nat.le_refl, List.cons_append, List.nil_append, List.append_nil, List.map_cons, List.map_nil, List.replicate, List.getElem?_cons_zero, List.getElem?_cons_succ, List.getElem?_nil, List.set_cons_zero, List.set_cons_succ, if_true, if_false, ite_true, ite_false, and_self, and_true, true_and, reduceCtorEq, Bool.not_true, Bool.not_false, decide_true, decide_false, maxLen, f1, e2]
/-- what is known of a step -/
structure OkP (p : Step) : Prop where
  r : 0 ≤ p.1 ∧ p.1 ≤ 40
  q : OkQ 60 p.2
  q0 : 0 ≤ p.2.1
theorem OkS.p {L : List Step} (h : OkS L) {p : Step} (hp : p ∈ L) : OkP p := ⟨h.rng p hp, (h.rate p hp).1, (h.rate p hp).2⟩
theorem uq_nn {j : Int} (h : 0 ≤ j) : 0 ≤ (uq j).1 := by
  have := (uq_le 0 j).mpr h
  rw [uq_0] at this
  simpa using this
theorem uq_1 {j : Int} (h : j ≤ 40) : (uq j).1 * 1 ≤ 1 * (uq j).2 := by
  have := (uq_le j 40).mpr h
  rw [uq_40] at this
  exact this
theorem is_step_ok {p : Step} (h : OkP p) : m_is_step [pst40 p] m = .ok (.bl true) m := by
  have f1 : g_is_step.fn = [m_is_amount, m_is_use] := rfl
  have hu := uq_ok h.r
  have e1 : ∀ m, m_is_use [raq (uq p.1)] m = .ok (.bl true) m := fun m => by
    have := is_use_ok (m := m) (nu_rat hu.nf) (hu.b1.sm (by decide)) (hu.b2.sm (by decide))
    rw [decide_eq_true (uq_nn h.r.1), decide_eq_true (uq_1 h.r.2)] at this
    exact this
  have e2 : ∀ m, m_is_amount [raq p.2] m = .ok (.bl true) m := fun m => by
    have := is_amount_ok (m := m) (ch_rat p.2.1 p.2.2)
    rw [decide_eq_true h.q0] at this
    exact this
  have e3 : ∀ m, tyN m (pst40 p) = some .tup := fun m => rfl
  unfold m_is_step ir_is_step
  unfold pst40 at *
  simp only [DI.Ev.ss_nil, DI.Ev.ss_cons, DI.Ev.st_try, DI.Ev.ee_0, DI.Ev.ee_1, DI.Ev.ee_2, DI.Ev.ee_3, DI.Ev.ee_4, DI.Ev.ee_5, DI.Ev.ee_6, DI.Ev.ee_7, DI.Ev.ee_8, DI.Ev.ee_9, DI.Ev.ee_10, DI.Ev.ee_11, DI.Ev.ee_12, DI.Ev.ee_13, DI.Ev.ee_14, DI.Ev.ee_15, DI.Ev.ee_16, DI.Ev.ee_17, DI.Ev.ee_18, DI.Ev.ee_19, DI.Ev.ee_20, DI.Ev.ee_21, DI.Ev.ee_22, DI.Ev.ee_23, DI.Ev.ee_24, DI.Ev.ee_25, DI.Ev.ee_26, DI.Ev.ee_27, DI.Ev.ee_28, DI.Ev.ee_29, DI.Ev.ee_30, DI.Ev.es_0, DI.Ev.es_1, DI.Ev.eo_0, DI.Ev.eo_1, DI.Ev.ec_0, DI.Ev.ec_1, DI.Ev.ei_0, DI.Ev.ei_1, DI.Ev.ei_2, DI.Ev.ei_3, DI.Ev.ei_4, DI.Ev.ei_5, DI.Ev.ei_6, DI.Ev.st_0, DI.Ev.st_1, DI.Ev.st_2, DI.Ev.st_3, DI.Ev.st_4, DI.Ev.st_5, DI.Ev.st_6, DI.Ev.st_7, DI.Ev.st_8, DI.Ev.st_9, DI.Ev.st_10, DI.Ev.st_11, DI.Ev.st_12, DI.Ev.st_13, DI.Ev.st_14, DI.Ev.st_17, DI.Ev.st_18, DI.Ev.st_19, DI.Ev.st_20, evH, DI.Ev.compX_nil, DI.Ev.compX_cons, DI.Ev.noX_ok, ↓reduceIte, DI.T.slots, DI.T.slotss, DI.wipeS, DI.Ev.bind_ok, DI.Ev.bind_exc, DI.Ev.out_ok, DI.Ev.out_exc, DI.Ev.seq_nx, DI.Ev.seq_ret, DI.Ev.seq_exc, DI.Ev.seq_brk, DI.Ev.seq_ct, DI.Ev.rnd_nx, DI.Ev.rnd_ct, DI.Ev.rnd_brk, DI.Ev.rnd_ret, DI.Ev.rnd_exc, DI.Ev.tr_nx, DI.Ev.tr_ret, DI.Ev.tr_exc, DI.Ev.fin_ret, DI.Ev.fin_nx, DI.Ev.fin_exc, DI.Ev.st_for, DI.Ev.forF_eq, DI.Ev.e_lcomp, DI.Ev.e_dcomp, DI.Ev.compF_eq, DI.Ev.compG_eq, DI.Ev.forX_cons, DI.Ev.forX_nil, DI.Ev.evF_eq, DI.Ev.nxO_some, DI.Ev.asg_var, DI.Ev.asg_tup, DI.Ev.asg_lst, DI.Ev.asgs_nil, DI.Ev.asgs_cons, DI.Ev.obind, DI.Ev.lift_some, DI.Ev.call_some, DI.Ev.bin_add, DI.Ev.bin_sub, DI.Ev.negD_int, DI.Ev.cmp_lt, DI.Ev.cmp_le, DI.Ev.cmp_gt, DI.Ev.cmp_ge, DI.Ev.cmp_eqI, DI.Ev.cmp_neI, DI.Ev.cmp_eqB, DI.Ev.cmp_neB, DI.Ev.cmp_eqT, splD, List.length_cons, List.length_nil, Nat.reduceAdd, Nat.reduceSub, Nat.reduceLeDiff, Nat.reduceLT, Nat.le_refl, List.cons_append, List.nil_append, List.append_nil, List.map_cons, List.map_nil, List.replicate, List.getElem?_cons_zero, List.getElem?_cons_succ, List.getElem?_nil, List.set_cons_zero, List.set_cons_succ, if_true, if_false, ite_true, ite_false, and_self, and_true, true_and, reduceCtorEq, Bool.not_true, Bool.not_false, decide_true, decide_false, maxLen, f1, e3, List.any_cons, List.any_nil, kdIs, Bool.or_false, bi_lenT, idx_tup, atI_0, atI_1, e1, e2, Int.reduceAdd]
  rfl
theorem bools_true {α : Type} (L : List α) : biD .all [.lst (L.map fun _ => .bl true)] m = some (.bl true) := by
  have e : boolsD (L.map fun _ => D.bl true) = some (L.map fun _ => true) := by
    induction L with
    | nil => rfl
    | cons a L ih => rw [List.map_cons, boolsD, ih]; rfl
  show (truths (L.map fun _ => D.bl true) fun bs => bs.all id) = _
  unfold truths
  rw [e]
  simp
theorem slc_1 (xs : List D) (h : 1 ≤ xs.length) : slcD (.lst xs) (some 1) none m = some (.lst (xs.drop 1)) := by
  have h1 : HT.sIx xs.length 0 (some 1) = 1 := by
    simp [HT.sIx]; omega
  have h2 : HT.sIx xs.length xs.length none = xs.length := rfl
  have : DI.cutD xs (some 1) none = xs.drop 1 := by
    unfold DI.cutD
    rw [h1, h2]
    rw [List.take_of_length_le (by simp)]
  show some (D.lst (DI.cutD xs (some 1) none)) = _
  rw [this]
theorem asc_zip : ∀ {L : List Step}, L.Pairwise (fun p q => p.1 < q.1) → ∀ z ∈ L.zip (L.drop 1), z.1 ∈ L ∧ z.2 ∈ L ∧ z.1.1 < z.2.1
  | [], _, z, hz => by simp at hz
  | [p], _, z, hz => by simp at hz
  | p :: q :: L, h, z, hz => by
    rw [List.drop_succ_cons, List.drop_zero, List.zip_cons_cons] at hz
    rcases List.mem_cons.mp hz with rfl | hz
    · exact ⟨List.mem_cons_self .., List.mem_cons_of_mem _ (List.mem_cons_self ..), (List.pairwise_cons.mp h).1 q (List.mem_cons_self ..)⟩
    · have := asc_zip (L := q :: L) (List.pairwise_cons.mp h).2 z (by simpa using hz)
      exact ⟨List.mem_cons_of_mem _ this.1, List.mem_cons_of_mem _ this.2.1, this.2.2⟩
theorem are_steps_ok {L : List Step} (h : OkS L) : m_are_steps [.lst (L.map pst40)] m = .ok (.bl true) m := by
  have f1 : g_are_steps.fn = [m_is_step, m_as_ratio] := rfl
  obtain ⟨q0, T, hL⟩ := h.head
  have hl : (L.map pst40).length ≤ 100000 := by rw [List.length_map]; have := h.len; omega
  have hl1 : 1 ≤ (L.map pst40).length := by rw [hL]; simp
  have e3 : ∀ m, tyN m (.lst (L.map pst40)) = some .lst := fun m => rfl
  have n0 : ¬ ((L.map pst40).length : Int) = 0 := by omega
  have s1 : ∀ m, slcD (.lst (L.map pst40)) (some 1) none m = some (.lst ((L.map pst40).drop 1)) := fun m => slc_1 _ hl1
  have ez : ((L.map pst40).zip ((L.map pst40).drop 1)).map (fun p => D.tup [p.1, p.2]) = (L.zip (L.drop 1)).map (fun z => D.tup [pst40 z.1, pst40 z.2]) := by
    rw [← List.map_drop, List.zip_map, List.map_map]
    rfl
  have hl2 : ((L.zip (L.drop 1)).map (fun z => D.tup [pst40 z.1, pst40 z.2])).length ≤ 100000 := by
    rw [List.length_map, List.length_zip]; have := h.len; omega
  have i0 : atI (L.map pst40) 0 = some (.tup [rat 0 1, raq q0]) := by
    rw [hL, List.map_cons, atI_0]
    unfold pst40 raq
    rw [uq_0]
  have ar : ∀ m, m_as_ratio [rat 0 1] m = .ok (rat 0 1) m := fun m => as_ratio_nf (ch_rat 0 1) (nf_int 0) (sm_of (by decide))
  have c0 : ∀ m, cmpD g_are_steps .eq (rat 0 1) (.int 0) m = .ok (.bl true) m := fun m => (cmp_eqR _ (ch_int 0)).trans (by simp)
  have as_ : ∀ p ∈ L, ∀ m, m_as_ratio [raq (uq p.1)] m = .ok (raq (uq p.1)) m := fun p hp m => as_ratio_nf (ch_rat _ _) (uq_nf _) ((uq_ok (h.rng p hp)).b2.sm (by decide))
  unfold m_are_steps ir_are_steps
  simp only [DI.Ev.ss_nil, DI.Ev.ss_cons, DI.Ev.st_try, DI.Ev.ee_0, DI.Ev.ee_1, DI.Ev.ee_2, DI.Ev.ee_3, DI.Ev.ee_4, DI.Ev.ee_5, DI.Ev.ee_6, DI.Ev.ee_7, DI.Ev.ee_8, DI.Ev.ee_9, DI.Ev.ee_10, DI.Ev.ee_11, DI.Ev.ee_12, DI.Ev.ee_13, DI.Ev.ee_14, DI.Ev.ee_15, DI.Ev.ee_16, DI.Ev.ee_17, DI.Ev.ee_18, DI.Ev.ee_19, DI.Ev.ee_20, DI.Ev.ee_21, DI.Ev.ee_22, DI.Ev.ee_23, DI.Ev.ee_24, DI.Ev.ee_25, DI.Ev.ee_26, DI.Ev.ee_27, DI.Ev.ee_28, DI.Ev.ee_29, DI.Ev.ee_30, DI.Ev.es_0, DI.Ev.es_1, DI.Ev.eo_0, DI.Ev.eo_1, DI.Ev.ec_0, DI.Ev.ec_1, DI.Ev.ei_0, DI.Ev.ei_1, DI.Ev.ei_2, DI.Ev.ei_3, DI.Ev.ei_4, DI.Ev.ei_5, DI.Ev.ei_6, DI.Ev.st_0, DI.Ev.st_1, DI.Ev.st_2, DI.Ev.st_3, DI.Ev.st_4, DI.Ev.st_5, DI.Ev.st_6, DI.Ev.st_7, DI.Ev.st_8, DI.Ev.st_9, DI.Ev.st_10, DI.Ev.st_11, DI.Ev.st_12, DI.Ev.st_13, DI.Ev.st_14, DI.Ev.st_17, DI.Ev.st_18, DI.Ev.st_19, DI.Ev.st_20, evH, DI.Ev.compX_nil, DI.Ev.compX_cons, DI.Ev.noX_ok, ↓reduceIte, DI.T.slots, DI.T.slotss, DI.wipeS, DI.Ev.bind_ok, DI.Ev.bind_exc, DI.Ev.out_ok, DI.Ev.out_exc, DI.Ev.seq_nx, DI.Ev.seq_ret, DI.Ev.seq_exc, DI.Ev.seq_brk, DI.Ev.seq_ct, DI.Ev.rnd_nx, DI.Ev.rnd_ct, DI.Ev.rnd_brk, DI.Ev.rnd_ret, DI.Ev.rnd_exc, DI.Ev.tr_nx, DI.Ev.tr_ret, DI.Ev.tr_exc, DI.Ev.fin_ret, DI.Ev.fin_nx, DI.Ev.fin_exc, DI.Ev.st_for, DI.Ev.forF_eq, DI.Ev.e_lcomp, DI.Ev.e_dcomp, DI.Ev.compF_eq, DI.Ev.compG_eq, DI.Ev.forX_cons, DI.Ev.forX_nil, DI.Ev.evF_eq, DI.Ev.nxO_some, DI.Ev.asg_var, DI.Ev.asg_tup, DI.Ev.asg_lst, DI.Ev.asgs_nil, DI.Ev.asgs_cons, DI.Ev.obind, DI.Ev.lift_some, DI.Ev.call_some, DI.Ev.bin_add, DI.Ev.bin_sub, DI.Ev.negD_int, DI.Ev.cmp_lt, DI.Ev.cmp_le, DI.Ev.cmp_gt, DI.Ev.cmp_ge, DI.Ev.cmp_eqI, DI.Ev.cmp_neI, DI.Ev.cmp_eqB, DI.Ev.cmp_neB, DI.Ev.cmp_eqT, splD, List.length_cons, List.length_nil, Nat.reduceAdd, Nat.reduceSub, Nat.reduceLeDiff, Nat.reduceLT, Nat.le_refl, List.cons_append, List.nil_append, List.append_nil, List.map_cons, List.map_nil, List.replicate, List.getElem?_cons_zero, List.getElem?_cons_succ, List.getElem?_nil, List.set_cons_zero, List.set_cons_succ, if_true, if_false, ite_true, ite_false, and_self, and_true, true_and, reduceCtorEq, Bool.not_true, Bool.not_false, decide_true, decide_false, maxLen, f1, e3, List.any_cons, List.any_nil, kdIs, Bool.or_false, bi_len, n0, it_lst, hl]
  rw [comp_all (fun _ => .bl true) (fun p hp => by
    simp only [DI.Ev.ss_nil, DI.Ev.ss_cons, DI.Ev.st_try, DI.Ev.ee_0, DI.Ev.ee_1, DI.Ev.ee_2, DI.Ev.ee_3, DI.Ev.ee_4, DI.Ev.ee_5, DI.Ev.ee_6, DI.Ev.ee_7, DI.Ev.ee_8, DI.Ev.ee_9, DI.Ev.ee_10, DI.Ev.ee_11, DI.Ev.ee_12, DI.Ev.ee_13, DI.Ev.ee_14, DI.Ev.ee_15, DI.Ev.ee_16, DI.Ev.ee_17, DI.Ev.ee_18, DI.Ev.ee_19, DI.Ev.ee_20, DI.Ev.ee_21, DI.Ev.ee_22, DI.Ev.ee_23, DI.Ev.ee_24, DI.Ev.ee_25, DI.Ev.ee_26, DI.Ev.ee_27, DI.Ev.ee_28, DI.Ev.ee_29, DI.Ev.ee_30, DI.Ev.es_0, DI.Ev.es_1, DI.Ev.eo_0, DI.Ev.eo_1, DI.Ev.ec_0, DI.Ev.ec_1, DI.Ev.ei_0, DI.Ev.ei_1, DI.Ev.ei_2, DI.Ev.ei_3, DI.Ev.ei_4, DI.Ev.ei_5, DI.Ev.ei_6, DI.Ev.st_0, DI.Ev.st_1, DI.Ev.st_2, DI.Ev.st_3, DI.Ev.st_4, DI.Ev.st_5, DI.Ev.st_6, DI.Ev.st_7, DI.Ev.st_8, DI.Ev.st_9, DI.Ev.st_10, DI.Ev.st_11, DI.Ev.st_12, DI.Ev.st_13, DI.Ev.st_14, DI.Ev.st_17, DI.Ev.st_18, DI.Ev.st_19, DI.Ev.st_20, evH, DI.Ev.compX_nil, DI.Ev.compX_cons, DI.Ev.noX_ok, ↓reduceIte, DI.T.slots, DI.T.slotss, DI.wipeS, DI.Ev.bind_ok, DI.Ev.bind_exc, DI.Ev.out_ok, DI.Ev.out_exc, DI.Ev.seq_nx, DI.Ev.seq_ret, DI.Ev.seq_exc, DI.Ev.seq_brk, DI.Ev.seq_ct, DI.Ev.rnd_nx, DI.Ev.rnd_ct, DI.Ev.rnd_brk, DI.Ev.rnd_ret, DI.Ev.rnd_exc, DI.Ev.tr_nx, DI.Ev.tr_ret, DI.Ev.tr_exc, DI.Ev.fin_ret, DI.Ev.fin_nx, DI.Ev.fin_exc, DI.Ev.st_for, DI.Ev.forF_eq, DI.Ev.e_lcomp, DI.Ev.e_dcomp, DI.Ev.compF_eq, DI.Ev.compG_eq, DI.Ev.forX_cons, DI.Ev.forX_nil, DI.Ev.evF_eq, DI.Ev.nxO_some, DI.Ev.asg_var, DI.Ev.asg_tup, DI.Ev.asg_lst, DI.Ev.asgs_nil, DI.Ev.asgs_cons, DI.Ev.obind, DI.Ev.lift_some, DI.Ev.call_some, DI.Ev.bin_add, DI.Ev.bin_sub, DI.Ev.negD_int, DI.Ev.cmp_lt, DI.Ev.cmp_le, DI.Ev.cmp_gt, DI.Ev.cmp_ge, DI.Ev.cmp_eqI, DI.Ev.cmp_neI, DI.Ev.cmp_eqB, DI.Ev.cmp_neB, DI.Ev.cmp_eqT, splD, List.length_cons, List.length_nil, Nat.reduceAdd, Nat.reduceSub, Nat.reduceLeDiff, Nat.reduceLT, Nat.le_refl, List.cons_append, List.nil_append, List.append_nil, List.map_cons, List.map_nil, List.replicate, List.getElem?_cons_zero, List.getElem?_cons_succ, List.getElem?_nil, List.set_cons_zero, List.set_cons_succ, if_true, if_false, ite_true, ite_false, and_self, and_true, true_and, reduceCtorEq, Bool.not_true, Bool.not_false, decide_true, decide_false, maxLen, f1, is_step_ok (h.p hp)])]
  simp only [DI.Ev.ss_nil, DI.Ev.ss_cons, DI.Ev.st_try, DI.Ev.ee_0, DI.Ev.ee_1, DI.Ev.ee_2, DI.Ev.ee_3, DI.Ev.ee_4, DI.Ev.ee_5, DI.Ev.ee_6, DI.Ev.ee_7, DI.Ev.ee_8, DI.Ev.ee_9, DI.Ev.ee_10, DI.Ev.ee_11, DI.Ev.ee_12, DI.Ev.ee_13, DI.Ev.ee_14, DI.Ev.ee_15, DI.Ev.ee_16, DI.Ev.ee_17, DI.Ev.ee_18, DI.Ev.ee_19, DI.Ev.ee_20, DI.Ev.ee_21, DI.Ev.ee_22, DI.Ev.ee_23, DI.Ev.ee_24, DI.Ev.ee_25, DI.Ev.ee_26, DI.Ev.ee_27, DI.Ev.ee_28, DI.Ev.ee_29, DI.Ev.ee_30, DI.Ev.es_0, DI.Ev.es_1, DI.Ev.eo_0, DI.Ev.eo_1, DI.Ev.ec_0, DI.Ev.ec_1, DI.Ev.ei_0, DI.Ev.ei_1, DI.Ev.ei_2, DI.Ev.ei_3, DI.Ev.ei_4, DI.Ev.ei_5, DI.Ev.ei_6, DI.Ev.st_0, DI.Ev.st_1, DI.Ev.st_2, DI.Ev.st_3, DI.Ev.st_4, DI.Ev.st_5, DI.Ev.st_6, DI.Ev.st_7, DI.Ev.st_8, DI.Ev.st_9, DI.Ev.st_10, DI.Ev.st_11, DI.Ev.st_12, DI.Ev.st_13, DI.Ev.st_14, DI.Ev.st_17, DI.Ev.st_18, DI.Ev.st_19, DI.Ev.st_20, evH, DI.Ev.compX_nil, DI.Ev.compX_cons, DI.Ev.noX_ok, ↓reduceIte, DI.T.slots, DI.T.slotss, DI.wipeS, DI.Ev.bind_ok, DI.Ev.bind_exc, DI.Ev.out_ok, DI.Ev.out_exc, DI.Ev.seq_nx, DI.Ev.seq_ret, DI.Ev.seq_exc, DI.Ev.seq_brk, DI.Ev.seq_ct, DI.Ev.rnd_nx, DI.Ev.rnd_ct, DI.Ev.rnd_brk, DI.Ev.rnd_ret, DI.Ev.rnd_exc, DI.Ev.tr_nx, DI.Ev.tr_ret, DI.Ev.tr_exc, DI.Ev.fin_ret, DI.Ev.fin_nx, DI.Ev.fin_exc, DI.Ev.st_for, DI.Ev.forF_eq, DI.Ev.e_lcomp, DI.Ev.e_dcomp, DI.Ev.compF_eq, DI.Ev.compG_eq, DI.Ev.forX_cons, DI.Ev.forX_nil, DI.Ev.evF_eq, DI.Ev.nxO_some, DI.Ev.asg_var, DI.Ev.asg_tup, DI.Ev.asg_lst, DI.Ev.asgs_nil, DI.Ev.asgs_cons, DI.Ev.obind, DI.Ev.lift_some, DI.Ev.call_some, DI.Ev.bin_add, DI.Ev.bin_sub, DI.Ev.negD_int, DI.Ev.cmp_lt, DI.Ev.cmp_le, DI.Ev.cmp_gt, DI.Ev.cmp_ge, DI.Ev.cmp_eqI, DI.Ev.cmp_neI, DI.Ev.cmp_eqB, DI.Ev.cmp_neB, DI.Ev.cmp_eqT, splD, List.length_cons, List.length_nil, Nat.reduceAdd, Nat.reduceSub, Nat.reduceLeDiff, Nat.reduceLT, Nat.le_refl, List.cons_append, List.nil_append, List.append_nil, List.map_cons, List.map_nil, List.replicate, List.getElem?_cons_zero, List.getElem?_cons_succ, List.getElem?_nil, List.set_cons_zero, List.set_cons_succ, if_true, if_false, ite_true, ite_false, and_self, and_true, true_and, reduceCtorEq, Bool.not_true, Bool.not_false, decide_true, decide_false, maxLen, f1, bools_true, s1, ez, hl2]
  rw [comp_all (fun _ => .bl true) (fun z hz => by
    obtain ⟨k1, k2, k3⟩ := asc_zip h.asc z hz
    have lt : ∀ m, cmpD g_are_steps .lt (raq (uq z.1.1)) (raq (uq z.2.1)) m = .ok (.bl true) m := fun m => by
      have hu := uq_ok (h.rng _ k1)
      have hv := uq_ok (h.rng _ k2)
      have := cmp_ltR (fs := [m_is_step, m_as_ratio]) (me := []) (m := m) (a := (uq z.1.1).1) (b := (uq z.1.1).2) (raq (uq z.2.1)) (ch_rat _ _) (hu.b1.sm (by decide)) (hu.b2.sm (by decide)) (hv.b1.sm (by decide)) (hv.b2.sm (by decide))
      rw [decide_eq_true ((uq_lt _ _).mpr k3)] at this
      exact this
    unfold pst40
    simp only [DI.Ev.ss_nil, DI.Ev.ss_cons, DI.Ev.st_try, DI.Ev.ee_0, DI.Ev.ee_1, DI.Ev.ee_2, DI.Ev.ee_3, DI.Ev.ee_4, DI.Ev.ee_5, DI.Ev.ee_6, DI.Ev.ee_7, DI.Ev.ee_8, DI.Ev.ee_9, DI.Ev.ee_10, DI.Ev.ee_11, DI.Ev.ee_12, DI.Ev.ee_13, DI.Ev.ee_14, DI.Ev.ee_15, DI.Ev.ee_16, DI.Ev.ee_17, DI.Ev.ee_18, DI.Ev.ee_19, DI.Ev.ee_20, DI.Ev.ee_21, DI.Ev.ee_22, DI.Ev.ee_23, DI.Ev.ee_24, DI.Ev.ee_25, DI.Ev.ee_26, DI.Ev.ee_27, DI.Ev.ee_28, DI.Ev.ee_29, DI.Ev.ee_30, DI.Ev.es_0, DI.Ev.es_1, DI.Ev.eo_0, DI.Ev.eo_1, DI.Ev.ec_0, DI.Ev.ec_1, DI.Ev.ei_0, DI.Ev.ei_1, DI.Ev.ei_2, DI.Ev.ei_3, DI.Ev.ei_4, DI.Ev.ei_5, DI.Ev.ei_6, DI.Ev.st_0, DI.Ev.st_1, DI.Ev.st_2, DI.Ev.st_3, DI.Ev.st_4, DI.Ev.st_5, DI.Ev.st_6, DI.Ev.st_7, DI.Ev.st_8, DI.Ev.st_9, DI.Ev.st_10, DI.Ev.st_11, DI.Ev.st_12, DI.Ev.st_13, DI.Ev.st_14, DI.Ev.st_17, DI.Ev.st_18, DI.Ev.st_19, DI.Ev.st_20, evH, DI.Ev.compX_nil, DI.Ev.compX_cons, DI.Ev.noX_ok, ↓reduceIte, DI.T.slots, DI.T.slotss, DI.wipeS, DI.Ev.bind_ok, DI.Ev.bind_exc, DI.Ev.out_ok, DI.Ev.out_exc, DI.Ev.seq_nx, DI.Ev.seq_ret, DI.Ev.seq_exc, DI.Ev.seq_brk, DI.Ev.seq_ct, DI.Ev.rnd_nx, DI.Ev.rnd_ct, DI.Ev.rnd_brk, DI.Ev.rnd_ret, DI.Ev.rnd_exc, DI.Ev.tr_nx, DI.Ev.tr_ret, DI.Ev.tr_exc, DI.Ev.fin_ret, DI.Ev.fin_nx, DI.Ev.fin_exc, DI.Ev.st_for, DI.Ev.forF_eq, DI.Ev.e_lcomp, DI.Ev.e_dcomp, DI.Ev.compF_eq, DI.Ev.compG_eq, DI.Ev.forX_cons, DI.Ev.forX_nil, DI.Ev.evF_eq, DI.Ev.nxO_some, DI.Ev.asg_var, DI.Ev.asg_tup, DI.Ev.asg_lst, DI.Ev.asgs_nil, DI.Ev.asgs_cons, DI.Ev.obind, DI.Ev.lift_some, DI.Ev.call_some, DI.Ev.bin_add, DI.Ev.bin_sub, DI.Ev.negD_int, DI.Ev.cmp_lt, DI.Ev.cmp_le, DI.Ev.cmp_gt, DI.Ev.cmp_ge, DI.Ev.cmp_eqI, DI.Ev.cmp_neI, DI.Ev.cmp_eqB, DI.Ev.cmp_neB, DI.Ev.cmp_eqT, splD, List.length_cons, List.length_nil, Nat.reduceAdd, Nat.reduceSub, Nat.reduceLeDiff, Nat.reduceLT, Nat.le_refl, List.cons_append, List.nil_append, List.append_nil, List.map_cons, List.map_nil, List.replicate, List.getElem?_cons_zero, List.getElem?_cons_succ, List.getElem?_nil, List.set_cons_zero, List.set_cons_succ, if_true, if_false, ite_true, ite_false, and_self, and_true, true_and, reduceCtorEq, Bool.not_true, Bool.not_false, decide_true, decide_false, maxLen, f1, List.append_nil, idx_tup, atI_0, as_ _ k1, lt])]
  simp only [DI.Ev.ss_nil, DI.Ev.ss_cons, DI.Ev.st_try, DI.Ev.ee_0, DI.Ev.ee_1, DI.Ev.ee_2, DI.Ev.ee_3, DI.Ev.ee_4, DI.Ev.ee_5, DI.Ev.ee_6, DI.Ev.ee_7, DI.Ev.ee_8, DI.Ev.ee_9, DI.Ev.ee_10, DI.Ev.ee_11, DI.Ev.ee_12, DI.Ev.ee_13, DI.Ev.ee_14, DI.Ev.ee_15, DI.Ev.ee_16, DI.Ev.ee_17, DI.Ev.ee_18, DI.Ev.ee_19, DI.Ev.ee_20, DI.Ev.ee_21, DI.Ev.ee_22, DI.Ev.ee_23, DI.Ev.ee_24, DI.Ev.ee_25, DI.Ev.ee_26, DI.Ev.ee_27, DI.Ev.ee_28, DI.Ev.ee_29, DI.Ev.ee_30, DI.Ev.es_0, DI.Ev.es_1, DI.Ev.eo_0, DI.Ev.eo_1, DI.Ev.ec_0, DI.Ev.ec_1, DI.Ev.ei_0, DI.Ev.ei_1, DI.Ev.ei_2, DI.Ev.ei_3, DI.Ev.ei_4, DI.Ev.ei_5, DI.Ev.ei_6, DI.Ev.st_0, DI.Ev.st_1, DI.Ev.st_2, DI.Ev.st_3, DI.Ev.st_4, DI.Ev.st_5, DI.Ev.st_6, DI.Ev.st_7, DI.Ev.st_8, DI.Ev.st_9, DI.Ev.st_10, DI.Ev.st_11, DI.Ev.st_12, DI.Ev.st_13, DI.Ev.st_14, DI.Ev.st_17, DI.Ev.st_18, DI.Ev.st_19, DI.Ev.st_20, evH, DI.Ev.compX_nil, DI.Ev.compX_cons, DI.Ev.noX_ok, ↓reduceIte, DI.T.slots, DI.T.slotss, DI.wipeS, DI.Ev.bind_ok, DI.Ev.bind_exc, DI.Ev.out_ok, DI.Ev.out_exc, DI.Ev.seq_nx, DI.Ev.seq_ret, DI.Ev.seq_exc, DI.Ev.seq_brk, DI.Ev.seq_ct, DI.Ev.rnd_nx, DI.Ev.rnd_ct, DI.Ev.rnd_brk, DI.Ev.rnd_ret, DI.Ev.rnd_exc, DI.Ev.tr_nx, DI.Ev.tr_ret, DI.Ev.tr_exc, DI.Ev.fin_ret, DI.Ev.fin_nx, DI.Ev.fin_exc, DI.Ev.st_for, DI.Ev.forF_eq, DI.Ev.e_lcomp, DI.Ev.e_dcomp, DI.Ev.compF_eq, DI.Ev.compG_eq, DI.Ev.forX_cons, DI.Ev.forX_nil, DI.Ev.evF_eq, DI.Ev.nxO_some, DI.Ev.asg_var, DI.Ev.asg_tup, DI.Ev.asg_lst, DI.Ev.asgs_nil, DI.Ev.asgs_cons, DI.Ev.obind, DI.Ev.lift_some, DI.Ev.call_some, DI.Ev.bin_add, DI.Ev.bin_sub, DI.Ev.negD_int, DI.Ev.cmp_lt, DI.Ev.cmp_le, DI.Ev.cmp_gt, DI.Ev.cmp_ge, DI.Ev.cmp_eqI, DI.Ev.cmp_neI, DI.Ev.cmp_eqB, DI.Ev.cmp_neB, DI.Ev.cmp_eqT, splD, List.length_cons, List.length_nil, Nat.reduceAdd, Nat.reduceSub, Nat.reduceLeDiff, Nat.reduceLT, Nat.le_refl, List.cons_append, List.nil_append, List.append_nil, List.map_cons, List.map_nil, List.replicate, List.getElem?_cons_zero, List.getElem?_cons_succ, List.getElem?_nil, List.set_cons_zero, List.set_cons_succ, if_true, if_false, ite_true, ite_false, and_self, and_true, true_and, reduceCtorEq, Bool.not_true, Bool.not_false, decide_true, decide_false, maxLen, idx_lst, i0, idx_tup, atI_0, f1, ar, c0, bools_true]
end K56
end

section
set_option linter.all false
set_option exponentiation.threshold 100000
set_option maxRecDepth 100000
set_option maxHeartbeats 1000000
namespace K56
open PySem L2 DI
open PyProof.Rows hiding St
open DI.Ev
variable {c d : Int} {y : D} {m : MS}
theorem atI_last (xs : List D) : atI xs (-1) = xs.getLast? := by
  cases xs with
  | nil => rfl
  | cons a l =>
    have h1 : ¬ (0 : Int) ≤ -1 := by decide
    have h2 : -((a :: l).length : Int) ≤ -1 := by rw [List.length_cons]; omega
    have h3 : (-1 + ((a :: l).length : Int)).toNat = (a :: l).length - 1 := by omega
    simp only [atI, ixN, h1, h2, if_false, if_true, h3, Option.bind_some]
    rw [List.getLast?_eq_getElem?]
def bodyFew : List S := match ir_fewest_steps with | _ :: .for_ _ _ b :: _ => b | _ => []
theorem few_eq : ir_fewest_steps = [.asg (.var 1) (.lst []), .for_ (.tup [.var 2, .var 3]) (.seq (.var 0)) bodyFew, .ret (.var 1)] := rfl
theorem few_turn {x0 : Option SV} {p : Step} (hp : OkP p) {acc : List Step} (hl : acc.length ≤ 1000) :
    ∃ b2 b3, evSs g_fewest_steps bodyFew [x0, some (.sh (.lst (acc.map pst40))), some (.sh (raq (uq p.1))), some (.sh (raq p.2))] m = .nx [x0, some (.sh (.lst ((if (acc.getLast?).map (·.2) = some p.2 then acc else acc ++ [p]).map pst40))), b2, b3] m := by
  refine ⟨some (.sh (raq (uq p.1))), some (.sh (raq p.2)), ?_⟩
  have f1 : g_fewest_steps.fn = [m_as_ratio] := rfl
  have hu := uq_ok hp.r
  have a1 : ∀ m, m_as_ratio [raq (uq p.1)] m = .ok (raq (uq p.1)) m := fun m => as_ratio_nf (ch_rat _ _) hu.nf (hu.b2.sm (by decide))
  have a2 : ∀ m, m_as_ratio [raq p.2] m = .ok (raq p.2) m := fun m => as_ratio_nf (ch_rat _ _) hp.q.nf (hp.q.b2.sm (by decide))
  have hl1 : (List.map pst40 acc ++ [D.tup [raq (uq p.1), raq p.2]]).length ≤ 100000 := by rw [List.length_append, List.length_map]; simp; omega
  have hm : (acc ++ [p]).map pst40 = acc.map pst40 ++ [.tup [raq (uq p.1), raq p.2]] := by rw [List.map_append]; rfl
  unfold bodyFew ir_fewest_steps
  cases hg : acc.getLast? with
  | none =>
    have e := List.getLast?_eq_none_iff.mp hg
    subst e
    rw [if_neg (by simp)]
    simp only [DI.Ev.ss_nil, DI.Ev.ss_cons, DI.Ev.st_try, DI.Ev.ee_0, DI.Ev.ee_1, DI.Ev.ee_2, DI.Ev.ee_3, DI.Ev.ee_4, DI.Ev.ee_5, DI.Ev.ee_6, DI.Ev.ee_7, DI.Ev.ee_8, DI.Ev.ee_9, DI.Ev.ee_10, DI.Ev.ee_11, DI.Ev.ee_12, DI.Ev.ee_13, DI.Ev.ee_14, DI.Ev.ee_15, DI.Ev.ee_16, DI.Ev.ee_17, DI.Ev.ee_18, DI.Ev.ee_19, DI.Ev.ee_20, DI.Ev.ee_21, DI.Ev.ee_22, DI.Ev.ee_23, DI.Ev.ee_24, DI.Ev.ee_25, DI.Ev.ee_26, DI.Ev.ee_27, DI.Ev.ee_28, DI.Ev.ee_29, DI.Ev.ee_30, DI.Ev.es_0, DI.Ev.es_1, DI.Ev.eo_0, DI.Ev.eo_1, DI.Ev.ec_0, DI.Ev.ec_1, DI.Ev.ei_0, DI.Ev.ei_1, DI.Ev.ei_2, DI.Ev.ei_3, DI.Ev.ei_4, DI.Ev.ei_5, DI.Ev.ei_6, DI.Ev.st_0, DI.Ev.st_1, DI.Ev.st_2, DI.Ev.st_3, DI.Ev.st_4, DI.Ev.st_5, DI.Ev.st_6, DI.Ev.st_7, DI.Ev.st_8, DI.Ev.st_9, DI.Ev.st_10, DI.Ev.st_11, DI.Ev.st_12, DI.Ev.st_13, DI.Ev.st_14, DI.Ev.st_17, DI.Ev.st_18, DI.Ev.st_19, DI.Ev.st_20, evH, DI.Ev.compX_nil, DI.Ev.compX_cons, DI.Ev.noX_ok, ↓reduceIte, DI.T.slots, DI.T.slotss, DI.wipeS, DI.Ev.bind_ok, DI.Ev.bind_exc, DI.Ev.out_ok, DI.Ev.out_exc, DI.Ev.seq_nx, DI.Ev.seq_ret, DI.Ev.seq_exc, DI.Ev.seq_brk, DI.Ev.seq_ct, DI.Ev.rnd_nx, DI.Ev.rnd_ct, DI.Ev.rnd_brk, DI.Ev.rnd_ret, DI.Ev.rnd_exc, DI.Ev.tr_nx, DI.Ev.tr_ret, DI.Ev.tr_exc, DI.Ev.fin_ret, DI.Ev.fin_nx, DI.Ev.fin_exc, DI.Ev.st_for, DI.Ev.forF_eq, DI.Ev.e_lcomp, DI.Ev.e_dcomp, DI.Ev.compF_eq, DI.Ev.compG_eq, DI.Ev.forX_cons, DI.Ev.forX_nil, DI.Ev.evF_eq, DI.Ev.nxO_some, DI.Ev.asg_var, DI.Ev.asg_tup, DI.Ev.asg_lst, DI.Ev.asgs_nil, DI.Ev.asgs_cons, DI.Ev.obind, DI.Ev.lift_some, DI.Ev.call_some, DI.Ev.bin_add, DI.Ev.bin_sub, DI.Ev.negD_int, DI.Ev.cmp_lt, DI.Ev.cmp_le, DI.Ev.cmp_gt, DI.Ev.cmp_ge, DI.Ev.cmp_eqI, DI.Ev.cmp_neI, DI.Ev.cmp_eqB, DI.Ev.cmp_neB, DI.Ev.cmp_eqT, splD, List.length_cons, List.length_nil, Nat.reduceAdd, Nat.reduceSub, Nat.reduceLeDiff, Nat.reduceLT, Nat.le_refl, List.cons_append, List.nil_append, List.append_nil, List.map_cons, List.map_nil, List.replicate, List.getElem?_cons_zero, List.getElem?_cons_succ, List.getElem?_nil, List.set_cons_zero, List.set_cons_succ, if_true, if_false, ite_true, ite_false, and_self, and_true, true_and, reduceCtorEq, Bool.not_true, Bool.not_false, decide_true, decide_false, maxLen, bi_len, Int.ofNat_eq_natCast, Int.natCast_zero, f1, a1, a2, inner_lst]
    rfl
  | some q =>
    have n0 : ¬ ((acc.map pst40).length : Int) = 0 := by
      cases acc with
      | nil => cases hg
      | cons _ _ => rw [List.map_cons, List.length_cons]; omega
    have g1 : (acc.map pst40).getLast? = some (.tup [raq (uq q.1), raq q.2]) := by rw [List.getLast?_map, hg]; rfl
    have c1 : ∀ m, cmpD g_fewest_steps .ne (raq q.2) (raq p.2) m = .ok (.bl !(decide (p.2.1 = q.2.1 ∧ p.2.2 = q.2.2))) m := fun m => cmp_neR _ (ch_rat _ _)
    by_cases z : q.2 = p.2
    · have : (decide (p.2.1 = q.2.1 ∧ p.2.2 = q.2.2)) = true := by rw [z]; simp
      rw [this] at c1
      rw [if_pos (by simp [z])]
      simp only [DI.Ev.ss_nil, DI.Ev.ss_cons, DI.Ev.st_try, DI.Ev.ee_0, DI.Ev.ee_1, DI.Ev.ee_2, DI.Ev.ee_3, DI.Ev.ee_4, DI.Ev.ee_5, DI.Ev.ee_6, DI.Ev.ee_7, DI.Ev.ee_8, DI.Ev.ee_9, DI.Ev.ee_10, DI.Ev.ee_11, DI.Ev.ee_12, DI.Ev.ee_13, DI.Ev.ee_14, DI.Ev.ee_15, DI.Ev.ee_16, DI.Ev.ee_17, DI.Ev.ee_18, DI.Ev.ee_19, DI.Ev.ee_20, DI.Ev.ee_21, DI.Ev.ee_22, DI.Ev.ee_23, DI.Ev.ee_24, DI.Ev.ee_25, DI.Ev.ee_26, DI.Ev.ee_27, DI.Ev.ee_28, DI.Ev.ee_29, DI.Ev.ee_30, DI.Ev.es_0, DI.Ev.es_1, DI.Ev.eo_0, DI.Ev.eo_1, DI.Ev.ec_0, DI.Ev.ec_1, DI.Ev.ei_0, DI.Ev.ei_1, DI.Ev.ei_2, DI.Ev.ei_3, DI.Ev.ei_4, DI.Ev.ei_5, DI.Ev.ei_6, DI.Ev.st_0, DI.Ev.st_1, DI.Ev.st_2, DI.Ev.st_3, DI.Ev.st_4, DI.Ev.st_5, DI.Ev.st_6, DI.Ev.st_7, DI.Ev.st_8, DI.Ev.st_9, DI.Ev.st_10, DI.Ev.st_11, DI.Ev.st_12, DI.Ev.st_13, DI.Ev.st_14, DI.Ev.st_17, DI.Ev.st_18, DI.Ev.st_19, DI.Ev.st_20, evH, DI.Ev.compX_nil, DI.Ev.compX_cons, DI.Ev.noX_ok, ↓reduceIte, DI.T.slots, DI.T.slotss, DI.wipeS, DI.Ev.bind_ok, DI.Ev.bind_exc, DI.Ev.out_ok, DI.Ev.out_exc, DI.Ev.seq_nx, DI.Ev.seq_ret, DI.Ev.seq_exc, DI.Ev.seq_brk, DI.Ev.seq_ct, DI.Ev.rnd_nx, DI.Ev.rnd_ct, DI.Ev.rnd_brk, DI.Ev.rnd_ret, DI.Ev.rnd_exc, DI.Ev.tr_nx, DI.Ev.tr_ret, DI.Ev.tr_exc, DI.Ev.fin_ret, DI.Ev.fin_nx, DI.Ev.fin_exc, DI.Ev.st_for, DI.Ev.forF_eq, DI.Ev.e_lcomp, DI.Ev.e_dcomp, DI.Ev.compF_eq, DI.Ev.compG_eq, DI.Ev.forX_cons, DI.Ev.forX_nil, DI.Ev.evF_eq, DI.Ev.nxO_some, DI.Ev.asg_var, DI.Ev.asg_tup, DI.Ev.asg_lst, DI.Ev.asgs_nil, DI.Ev.asgs_cons, DI.Ev.obind, DI.Ev.lift_some, DI.Ev.call_some, DI.Ev.bin_add, DI.Ev.bin_sub, DI.Ev.negD_int, DI.Ev.cmp_lt, DI.Ev.cmp_le, DI.Ev.cmp_gt, DI.Ev.cmp_ge, DI.Ev.cmp_eqI, DI.Ev.cmp_neI, DI.Ev.cmp_eqB, DI.Ev.cmp_neB, DI.Ev.cmp_eqT, splD, List.length_cons, List.length_nil, Nat.reduceAdd, Nat.reduceSub, Nat.reduceLeDiff, Nat.reduceLT, Nat.le_refl, List.cons_append, List.nil_append, List.append_nil, List.map_cons, List.map_nil, List.replicate, List.getElem?_cons_zero, List.getElem?_cons_succ, List.getElem?_nil, List.set_cons_zero, List.set_cons_succ, if_true, if_false, ite_true, ite_false, and_self, and_true, true_and, reduceCtorEq, Bool.not_true, Bool.not_false, decide_true, decide_false, maxLen, bi_len, n0, idx_lst, atI_last, g1, idx_tup, atI_1, c1]
    · have : (decide (p.2.1 = q.2.1 ∧ p.2.2 = q.2.2)) = false := by
        rw [decide_eq_false_iff_not]
        rintro ⟨h1, h2⟩
        exact z (Prod.ext h1.symm h2.symm)
      rw [this] at c1
      rw [if_neg (by simpa using z), hm]
      simp only [DI.Ev.ss_nil, DI.Ev.ss_cons, DI.Ev.st_try, DI.Ev.ee_0, DI.Ev.ee_1, DI.Ev.ee_2, DI.Ev.ee_3, DI.Ev.ee_4, DI.Ev.ee_5, DI.Ev.ee_6, DI.Ev.ee_7, DI.Ev.ee_8, DI.Ev.ee_9, DI.Ev.ee_10, DI.Ev.ee_11, DI.Ev.ee_12, DI.Ev.ee_13, DI.Ev.ee_14, DI.Ev.ee_15, DI.Ev.ee_16, DI.Ev.ee_17, DI.Ev.ee_18, DI.Ev.ee_19, DI.Ev.ee_20, DI.Ev.ee_21, DI.Ev.ee_22, DI.Ev.ee_23, DI.Ev.ee_24, DI.Ev.ee_25, DI.Ev.ee_26, DI.Ev.ee_27, DI.Ev.ee_28, DI.Ev.ee_29, DI.Ev.ee_30, DI.Ev.es_0, DI.Ev.es_1, DI.Ev.eo_0, DI.Ev.eo_1, DI.Ev.ec_0, DI.Ev.ec_1, DI.Ev.ei_0, DI.Ev.ei_1, DI.Ev.ei_2, DI.Ev.ei_3, DI.Ev.ei_4, DI.Ev.ei_5, DI.Ev.ei_6, DI.Ev.st_0, DI.Ev.st_1, DI.Ev.st_2, DI.Ev.st_3, DI.Ev.st_4, DI.Ev.st_5, DI.Ev.st_6, DI.Ev.st_7, DI.Ev.st_8, DI.Ev.st_9, DI.Ev.st_10, DI.Ev.st_11, DI.Ev.st_12, DI.Ev.st_13, DI.Ev.st_14, DI.Ev.st_17, DI.Ev.st_18, DI.Ev.st_19, DI.Ev.st_20, evH, DI.Ev.compX_nil, DI.Ev.compX_cons, DI.Ev.noX_ok, ↓reduceIte, DI.T.slots, DI.T.slotss, DI.wipeS, DI.Ev.bind_ok, DI.Ev.bind_exc, DI.Ev.out_ok, DI.Ev.out_exc, DI.Ev.seq_nx, DI.Ev.seq_ret, DI.Ev.seq_exc, DI.Ev.seq_brk, DI.Ev.seq_ct, DI.Ev.rnd_nx, DI.Ev.rnd_ct, DI.Ev.rnd_brk, DI.Ev.rnd_ret, DI.Ev.rnd_exc, DI.Ev.tr_nx, DI.Ev.tr_ret, DI.Ev.tr_exc, DI.Ev.fin_ret, DI.Ev.fin_nx, DI.Ev.fin_exc, DI.Ev.st_for, DI.Ev.forF_eq, DI.Ev.e_lcomp, DI.Ev.e_dcomp, DI.Ev.compF_eq, DI.Ev.compG_eq, DI.Ev.forX_cons, DI.Ev.forX_nil, DI.Ev.evF_eq, DI.Ev.nxO_some, DI.Ev.asg_var, DI.Ev.asg_tup, DI.Ev.asg_lst, DI.Ev.asgs_nil, DI.Ev.asgs_cons, DI.Ev.obind, DI.Ev.lift_some, DI.Ev.call_some, DI.Ev.bin_add, DI.Ev.bin_sub, DI.Ev.negD_int, DI.Ev.cmp_lt, DI.Ev.cmp_le, DI.Ev.cmp_gt, DI.Ev.cmp_ge, DI.Ev.cmp_eqI, DI.Ev.cmp_neI, DI.Ev.cmp_eqB, DI.Ev.cmp_neB, DI.Ev.cmp_eqT, splD, List.length_cons, List.length_nil, Nat.reduceAdd, Nat.reduceSub, Nat.reduceLeDiff, Nat.reduceLT, Nat.le_refl, List.cons_append, List.nil_append, List.append_nil, List.map_cons, List.map_nil, List.replicate, List.getElem?_cons_zero, List.getElem?_cons_succ, List.getElem?_nil, List.set_cons_zero, List.set_cons_succ, if_true, if_false, ite_true, ite_false, and_self, and_true, true_and, reduceCtorEq, Bool.not_true, Bool.not_false, decide_true, decide_false, maxLen, bi_len, n0, idx_lst, atI_last, g1, idx_tup, atI_1, c1, f1, a1, a2, inner_lst, hl1]
theorem few_loop {x0 : Option SV} : ∀ (L acc : List Step) (a2 a3 : Option SV), (∀ p ∈ L, OkP p) → acc.length + L.length ≤ 1000 → ∃ b2 b3,
    forX (forF g_fewest_steps (.tup [.var 2, .var 3]) bodyFew) (L.map pst40) [x0, some (.sh (.lst (acc.map pst40))), a2, a3] m = .nx [x0, some (.sh (.lst ((few acc L).map pst40))), b2, b3] m
  | [], acc, a2, a3, _, _ => ⟨a2, a3, rfl⟩
  | p :: L, acc, a2, a3, h, hl => by
    obtain ⟨b2, b3, e⟩ := few_turn (m := m) (x0 := x0) (h p (List.mem_cons_self ..)) (acc := acc) (by simp at hl; omega)
    obtain ⟨c2, c3, e2⟩ := few_loop (x0 := x0) L (if (acc.getLast?).map (·.2) = some p.2 then acc else acc ++ [p]) b2 b3 (fun q hq => h q (List.mem_cons_of_mem _ hq)) (by
      split
      · simp at hl; omega
      · simp at hl ⊢; omega)
    refine ⟨c2, c3, ?_⟩
    rw [List.map_cons, forX_cons]
    have t : asgT (.tup [.var 2, .var 3]) (pst40 p) [x0, some (.sh (.lst (acc.map pst40))), a2, a3] = some [x0, some (.sh (.lst (acc.map pst40))), some (.sh (raq (uq p.1))), some (.sh (raq p.2))] := rfl
    rw [forF_ap _ _ _ t, e, rnd_nx]
    exact e2
theorem fewest_ok {L : List Step} (h : OkS L) : m_fewest_steps [.lst (L.map pst40)] m = .ok (.lst ((few [] L).map pst40)) m := by
  obtain ⟨b2, b3, e⟩ := few_loop (m := m) (x0 := some (.sh (.lst (L.map pst40)))) L [] none none (fun p hp => h.p hp) (by have := h.len; simp; omega)
  unfold m_fewest_steps
  rw [few_eq]
  simp only [DI.Ev.ss_nil, DI.Ev.ss_cons, DI.Ev.st_try, DI.Ev.ee_0, DI.Ev.ee_1, DI.Ev.ee_2, DI.Ev.ee_3, DI.Ev.ee_4, DI.Ev.ee_5, DI.Ev.ee_6, DI.Ev.ee_7, DI.Ev.ee_8, DI.Ev.ee_9, DI.Ev.ee_10, DI.Ev.ee_11, DI.Ev.ee_12, DI.Ev.ee_13, DI.Ev.ee_14, DI.Ev.ee_15, DI.Ev.ee_16, DI.Ev.ee_17, DI.Ev.ee_18, DI.Ev.ee_19, DI.Ev.ee_20, DI.Ev.ee_21, DI.Ev.ee_22, DI.Ev.ee_23, DI.Ev.ee_24, DI.Ev.ee_25, DI.Ev.ee_26, DI.Ev.ee_27, DI.Ev.ee_28, DI.Ev.ee_29, DI.Ev.ee_30, DI.Ev.es_0, DI.Ev.es_1, DI.Ev.eo_0, DI.Ev.eo_1, DI.Ev.ec_0, DI.Ev.ec_1, DI.Ev.ei_0, DI.Ev.ei_1, DI.Ev.ei_2, DI.Ev.ei_3, DI.Ev.ei_4, DI.Ev.ei_5, DI.Ev.ei_6, DI.Ev.st_0, DI.Ev.st_1, DI.Ev.st_2, DI.Ev.st_3, DI.Ev.st_4, DI.Ev.st_5, DI.Ev.st_6, DI.Ev.st_7, DI.Ev.st_8, DI.Ev.st_9, DI.Ev.st_10, DI.Ev.st_11, DI.Ev.st_12, DI.Ev.st_13, DI.Ev.st_14, DI.Ev.st_17, DI.Ev.st_18, DI.Ev.st_19, DI.Ev.st_20, evH, DI.Ev.compX_nil, DI.Ev.compX_cons, DI.Ev.noX_ok, ↓reduceIte, DI.T.slots, DI.T.slotss, DI.wipeS, DI.Ev.bind_ok, DI.Ev.bind_exc, DI.Ev.out_ok, DI.Ev.out_exc, DI.Ev.seq_nx, DI.Ev.seq_ret, DI.Ev.seq_exc, DI.Ev.seq_brk, DI.Ev.seq_ct, DI.Ev.rnd_nx, DI.Ev.rnd_ct, DI.Ev.rnd_brk, DI.Ev.rnd_ret, DI.Ev.rnd_exc, DI.Ev.tr_nx, DI.Ev.tr_ret, DI.Ev.tr_exc, DI.Ev.fin_ret, DI.Ev.fin_nx, DI.Ev.fin_exc, DI.Ev.st_for, DI.Ev.forF_eq, DI.Ev.e_lcomp, DI.Ev.e_dcomp, DI.Ev.compF_eq, DI.Ev.compG_eq, DI.Ev.forX_cons, DI.Ev.forX_nil, DI.Ev.evF_eq, DI.Ev.nxO_some, DI.Ev.asg_var, DI.Ev.asg_tup, DI.Ev.asg_lst, DI.Ev.asgs_nil, DI.Ev.asgs_cons, DI.Ev.obind, DI.Ev.lift_some, DI.Ev.call_some, DI.Ev.bin_add, DI.Ev.bin_sub, DI.Ev.negD_int, DI.Ev.cmp_lt, DI.Ev.cmp_le, DI.Ev.cmp_gt, DI.Ev.cmp_ge, DI.Ev.cmp_eqI, DI.Ev.cmp_neI, DI.Ev.cmp_eqB, DI.Ev.cmp_neB, DI.Ev.cmp_eqT, splD, List.length_cons, List.length_nil, Nat.reduceAdd, Nat.reduceSub, Nat.reduceLeDiff, Nat.reduceLT, Nat.le_refl, List.cons_append, List.nil_append, List.append_nil, List.map_cons, List.map_nil, List.replicate, List.getElem?_cons_zero, List.getElem?_cons_succ, List.getElem?_nil, List.set_cons_zero, List.set_cons_succ, if_true, if_false, ite_true, ite_false, and_self, and_true, true_and, reduceCtorEq, Bool.not_true, Bool.not_false, decide_true, decide_false, maxLen, it_lst]
  rw [show ([] : List D) = ([] : List Step).map pst40 from rfl, e]
  simp only [DI.Ev.ss_nil, DI.Ev.ss_cons, DI.Ev.st_try, DI.Ev.ee_0, DI.Ev.ee_1, DI.Ev.ee_2, DI.Ev.ee_3, DI.Ev.ee_4, DI.Ev.ee_5, DI.Ev.ee_6, DI.Ev.ee_7, DI.Ev.ee_8, DI.Ev.ee_9, DI.Ev.ee_10, DI.Ev.ee_11, DI.Ev.ee_12, DI.Ev.ee_13, DI.Ev.ee_14, DI.Ev.ee_15, DI.Ev.ee_16, DI.Ev.ee_17, DI.Ev.ee_18, DI.Ev.ee_19, DI.Ev.ee_20, DI.Ev.ee_21, DI.Ev.ee_22, DI.Ev.ee_23, DI.Ev.ee_24, DI.Ev.ee_25, DI.Ev.ee_26, DI.Ev.ee_27, DI.Ev.ee_28, DI.Ev.ee_29, DI.Ev.ee_30, DI.Ev.es_0, DI.Ev.es_1, DI.Ev.eo_0, DI.Ev.eo_1, DI.Ev.ec_0, DI.Ev.ec_1, DI.Ev.ei_0, DI.Ev.ei_1, DI.Ev.ei_2, DI.Ev.ei_3, DI.Ev.ei_4, DI.Ev.ei_5, DI.Ev.ei_6, DI.Ev.st_0, DI.Ev.st_1, DI.Ev.st_2, DI.Ev.st_3, DI.Ev.st_4, DI.Ev.st_5, DI.Ev.st_6, DI.Ev.st_7, DI.Ev.st_8, DI.Ev.st_9, DI.Ev.st_10, DI.Ev.st_11, DI.Ev.st_12, DI.Ev.st_13, DI.Ev.st_14, DI.Ev.st_17, DI.Ev.st_18, DI.Ev.st_19, DI.Ev.st_20, evH, DI.Ev.compX_nil, DI.Ev.compX_cons, DI.Ev.noX_ok, ↓reduceIte, DI.T.slots, DI.T.slotss, DI.wipeS, DI.Ev.bind_ok, DI.Ev.bind_exc, DI.Ev.out_ok, DI.Ev.out_exc, DI.Ev.seq_nx, DI.Ev.seq_ret, DI.Ev.seq_exc, DI.Ev.seq_brk, DI.Ev.seq_ct, DI.Ev.rnd_nx, DI.Ev.rnd_ct, DI.Ev.rnd_brk, DI.Ev.rnd_ret, DI.Ev.rnd_exc, DI.Ev.tr_nx, DI.Ev.tr_ret, DI.Ev.tr_exc, DI.Ev.fin_ret, DI.Ev.fin_nx, DI.Ev.fin_exc, DI.Ev.st_for, DI.Ev.forF_eq, DI.Ev.e_lcomp, DI.Ev.e_dcomp, DI.Ev.compF_eq, DI.Ev.compG_eq, DI.Ev.forX_cons, DI.Ev.forX_nil, DI.Ev.evF_eq, DI.Ev.nxO_some, DI.Ev.asg_var, DI.Ev.asg_tup, DI.Ev.asg_lst, DI.Ev.asgs_nil, DI.Ev.asgs_cons, DI.Ev.obind, DI.Ev.lift_some, DI.Ev.call_some, DI.Ev.bin_add, DI.Ev.bin_sub, DI.Ev.negD_int, DI.Ev.cmp_lt, DI.Ev.cmp_le, DI.Ev.cmp_gt, DI.Ev.cmp_ge, DI.Ev.cmp_eqI, DI.Ev.cmp_neI, DI.Ev.cmp_eqB, DI.Ev.cmp_neB, DI.Ev.cmp_eqT, splD, List.length_cons, List.length_nil, Nat.reduceAdd, Nat.reduceSub, Nat.reduceLeDiff, Nat.reduceLT, Nat.le_refl, List.cons_append, List.nil_append, List.append_nil, List.map_cons, List.map_nil, List.replicate, List.getElem?_cons_zero, List.getElem?_cons_succ, List.getElem?_nil, List.set_cons_zero, List.set_cons_succ, if_true, if_false, ite_true, ite_false, and_self, and_true, true_and, reduceCtorEq, Bool.not_true, Bool.not_false, decide_true, decide_false, maxLen]
/-- a rule -/
def rul (R : List Step) : D := .obj 1 [("rows", .lst (R.map pst40))]
theorem Rule_ok {L : List Step} (h : OkS L) : m_Rule1 [.lst (L.map pst40)] m = .ok (rul (few [] L)) m := by
  have f1 : g_Rule___init__.fn = [m_are_steps, m_fewest_steps] := rfl
  have f2 : g_Rule___init__.fld = flds := rfl
  have e : evSs g_Rule___init__ ir_Rule___init__ [some (.ow (.ins 1 [])), some (.sh (.lst (L.map pst40)))] m = .nx [some (.ow (.ins 1 [("rows", .lst ((few [] L).map pst40))])), some (.sh (.lst (L.map pst40)))] m := by
    unfold ir_Rule___init__
    simp only [DI.Ev.ss_nil, DI.Ev.ss_cons, DI.Ev.st_try, DI.Ev.ee_0, DI.Ev.ee_1, DI.Ev.ee_2, DI.Ev.ee_3, DI.Ev.ee_4, DI.Ev.ee_5, DI.Ev.ee_6, DI.Ev.ee_7, DI.Ev.ee_8, DI.Ev.ee_9, DI.Ev.ee_10, DI.Ev.ee_11, DI.Ev.ee_12, DI.Ev.ee_13, DI.Ev.ee_14, DI.Ev.ee_15, DI.Ev.ee_16, DI.Ev.ee_17, DI.Ev.ee_18, DI.Ev.ee_19, DI.Ev.ee_20, DI.Ev.ee_21, DI.Ev.ee_22, DI.Ev.ee_23, DI.Ev.ee_24, DI.Ev.ee_25, DI.Ev.ee_26, DI.Ev.ee_27, DI.Ev.ee_28, DI.Ev.ee_29, DI.Ev.ee_30, DI.Ev.es_0, DI.Ev.es_1, DI.Ev.eo_0, DI.Ev.eo_1, DI.Ev.ec_0, DI.Ev.ec_1, DI.Ev.ei_0, DI.Ev.ei_1, DI.Ev.ei_2, DI.Ev.ei_3, DI.Ev.ei_4, DI.Ev.ei_5, DI.Ev.ei_6, DI.Ev.st_0, DI.Ev.st_1, DI.Ev.st_2, DI.Ev.st_3, DI.Ev.st_4, DI.Ev.st_5, DI.Ev.st_6, DI.Ev.st_7, DI.Ev.st_8, DI.Ev.st_9, DI.Ev.st_10, DI.Ev.st_11, DI.Ev.st_12, DI.Ev.st_13, DI.Ev.st_14, DI.Ev.st_17, DI.Ev.st_18, DI.Ev.st_19, DI.Ev.st_20, evH, DI.Ev.compX_nil, DI.Ev.compX_cons, DI.Ev.noX_ok, ↓reduceIte, DI.T.slots, DI.T.slotss, DI.wipeS, DI.Ev.bind_ok, DI.Ev.bind_exc, DI.Ev.out_ok, DI.Ev.out_exc, DI.Ev.seq_nx, DI.Ev.seq_ret, DI.Ev.seq_exc, DI.Ev.seq_brk, DI.Ev.seq_ct, DI.Ev.rnd_nx, DI.Ev.rnd_ct, DI.Ev.rnd_brk, DI.Ev.rnd_ret, DI.Ev.rnd_exc, DI.Ev.tr_nx, DI.Ev.tr_ret, DI.Ev.tr_exc, DI.Ev.fin_ret, DI.Ev.fin_nx, DI.Ev.fin_exc, DI.Ev.st_for, DI.Ev.forF_eq, DI.Ev.e_lcomp, DI.Ev.e_dcomp, DI.Ev.compF_eq, DI.Ev.compG_eq, DI.Ev.forX_cons, DI.Ev.forX_nil, DI.Ev.evF_eq, DI.Ev.nxO_some, DI.Ev.asg_var, DI.Ev.asg_tup, DI.Ev.asg_lst, DI.Ev.asgs_nil, DI.Ev.asgs_cons, DI.Ev.obind, DI.Ev.lift_some, DI.Ev.call_some, DI.Ev.bin_add, DI.Ev.bin_sub, DI.Ev.negD_int, DI.Ev.cmp_lt, DI.Ev.cmp_le, DI.Ev.cmp_gt, DI.Ev.cmp_ge, DI.Ev.cmp_eqI, DI.Ev.cmp_neI, DI.Ev.cmp_eqB, DI.Ev.cmp_neB, DI.Ev.cmp_eqT, splD, List.length_cons, List.length_nil, Nat.reduceAdd, Nat.reduceSub, Nat.reduceLeDiff, Nat.reduceLT, Nat.le_refl, List.cons_append, List.nil_append, List.append_nil, List.map_cons, List.map_nil, List.replicate, List.getElem?_cons_zero, List.getElem?_cons_succ, List.getElem?_nil, List.set_cons_zero, List.set_cons_succ, if_true, if_false, ite_true, ite_false, and_self, and_true, true_and, reduceCtorEq, Bool.not_true, Bool.not_false, decide_true, decide_false, maxLen, f1, are_steps_ok h, fewest_ok h, ownS, attD]
    have : ((1 : Nat), Str.ofString "rows") ∈ g_Rule___init__.fld := by rw [f2]; simp [flds]
    simp only [List.length_nil, this, and_true, putA]
    rfl
  unfold m_Rule1 evC0
  simp only [List.length_cons, List.length_nil, Nat.reduceAdd, if_true, List.map_cons, List.map_nil, List.cons_append, List.nil_append, Nat.reduceSub, List.replicate]
  rw [e]
  rfl
theorem attr_rows {g : G} (R : List Step) (h : g.fld = flds) : attrD g (rul R) "rows" m = some (.lst (R.map pst40)) := by
  simp [attrD, rul, h, flds]
/-- the rate at a use -/
theorem rate_ok {R : List Step} (hR : ∀ p ∈ R, OkP p) (hl : R.length ≤ 1000) {j : Int} (hj : 0 ≤ j ∧ j ≤ 40) (hy : Nu y (uq j).1 (uq j).2) {q : Q} (hq : rateAt R j = some q) : m_Rule_rate [rul R, y] m = .ok (raq q) m := by
  have f1 : g_Rule_rate.fn = [m_check_use] := rfl
  have f2 : g_Rule_rate.fld = flds := rfl
  have hu := uq_ok hj
  have k1 : ∀ m, m_check_use [y] m = .ok .non m := fun m => check_use_ok hy (hu.b1.sm (by decide)) (hu.b2.sm (by decide)) (uq_nn hj.1) (uq_1 hj.2)
  have hl1 : (R.map pst40).length ≤ 100000 := by rw [List.length_map]; omega
  unfold m_Rule_rate ir_Rule_rate
  simp only [DI.Ev.ss_nil, DI.Ev.ss_cons, DI.Ev.st_try, DI.Ev.ee_0, DI.Ev.ee_1, DI.Ev.ee_2, DI.Ev.ee_3, DI.Ev.ee_4, DI.Ev.ee_5, DI.Ev.ee_6, DI.Ev.ee_7, DI.Ev.ee_8, DI.Ev.ee_9, DI.Ev.ee_10, DI.Ev.ee_11, DI.Ev.ee_12, DI.Ev.ee_13, DI.Ev.ee_14, DI.Ev.ee_15, DI.Ev.ee_16, DI.Ev.ee_17, DI.Ev.ee_18, DI.Ev.ee_19, DI.Ev.ee_20, DI.Ev.ee_21, DI.Ev.ee_22, DI.Ev.ee_23, DI.Ev.ee_24, DI.Ev.ee_25, DI.Ev.ee_26, DI.Ev.ee_27, DI.Ev.ee_28, DI.Ev.ee_29, DI.Ev.ee_30, DI.Ev.es_0, DI.Ev.es_1, DI.Ev.eo_0, DI.Ev.eo_1, DI.Ev.ec_0, DI.Ev.ec_1, DI.Ev.ei_0, DI.Ev.ei_1, DI.Ev.ei_2, DI.Ev.ei_3, DI.Ev.ei_4, DI.Ev.ei_5, DI.Ev.ei_6, DI.Ev.st_0, DI.Ev.st_1, DI.Ev.st_2, DI.Ev.st_3, DI.Ev.st_4, DI.Ev.st_5, DI.Ev.st_6, DI.Ev.st_7, DI.Ev.st_8, DI.Ev.st_9, DI.Ev.st_10, DI.Ev.st_11, DI.Ev.st_12, DI.Ev.st_13, DI.Ev.st_14, DI.Ev.st_17, DI.Ev.st_18, DI.Ev.st_19, DI.Ev.st_20, evH, DI.Ev.compX_nil, DI.Ev.compX_cons, DI.Ev.noX_ok, ↓reduceIte, DI.T.slots, DI.T.slotss, DI.wipeS, DI.Ev.bind_ok, DI.Ev.bind_exc, DI.Ev.out_ok, DI.Ev.out_exc, DI.Ev.seq_nx, DI.Ev.seq_ret, DI.Ev.seq_exc, DI.Ev.seq_brk, DI.Ev.seq_ct, DI.Ev.rnd_nx, DI.Ev.rnd_ct, DI.Ev.rnd_brk, DI.Ev.rnd_ret, DI.Ev.rnd_exc, DI.Ev.tr_nx, DI.Ev.tr_ret, DI.Ev.tr_exc, DI.Ev.fin_ret, DI.Ev.fin_nx, DI.Ev.fin_exc, DI.Ev.st_for, DI.Ev.forF_eq, DI.Ev.e_lcomp, DI.Ev.e_dcomp, DI.Ev.compF_eq, DI.Ev.compG_eq, DI.Ev.forX_cons, DI.Ev.forX_nil, DI.Ev.evF_eq, DI.Ev.nxO_some, DI.Ev.asg_var, DI.Ev.asg_tup, DI.Ev.asg_lst, DI.Ev.asgs_nil, DI.Ev.asgs_cons, DI.Ev.obind, DI.Ev.lift_some, DI.Ev.call_some, DI.Ev.bin_add, DI.Ev.bin_sub, DI.Ev.negD_int, DI.Ev.cmp_lt, DI.Ev.cmp_le, DI.Ev.cmp_gt, DI.Ev.cmp_ge, DI.Ev.cmp_eqI, DI.Ev.cmp_neI, DI.Ev.cmp_eqB, DI.Ev.cmp_neB, DI.Ev.cmp_eqT, splD, List.length_cons, List.length_nil, Nat.reduceAdd, Nat.reduceSub, Nat.reduceLeDiff, Nat.reduceLT, Nat.le_refl, List.cons_append, List.nil_append, List.append_nil, List.map_cons, List.map_nil, List.replicate, List.getElem?_cons_zero, List.getElem?_cons_succ, List.getElem?_nil, List.set_cons_zero, List.set_cons_succ, if_true, if_false, ite_true, ite_false, and_self, and_true, true_and, reduceCtorEq, Bool.not_true, Bool.not_false, decide_true, decide_false, maxLen, f1, k1, attr_rows R f2, it_lst, hl1]
  rw [comp_enc (fun p => decide (p.1 ≤ j)) (fun p => raq p.2) (fun p hp => by
    have hv := uq_ok (hR p hp).r
    have c1 : ∀ m, cmpD g_Rule_rate .le (raq (uq p.1)) y m = .ok (.bl (decide (p.1 ≤ j))) m := fun m => by
      have := cmp_leR (fs := [m_check_use]) (me := []) (m := m) (a := (uq p.1).1) (b := (uq p.1).2) y hy.ch (hv.b1.sm (by decide)) (hv.b2.sm (by decide)) (hu.b1.sm (by decide)) (hu.b2.sm (by decide))
      rw [show decide ((uq p.1).1 * (uq j).2 ≤ (uq j).1 * (uq p.1).2) = decide (p.1 ≤ j) from decide_eq_decide.mpr (uq_le _ _)] at this
      exact this
    unfold pst40
    by_cases z : p.1 ≤ j <;>
    simp only [DI.Ev.ss_nil, DI.Ev.ss_cons, DI.Ev.st_try, DI.Ev.ee_0, DI.Ev.ee_1, DI.Ev.ee_2, DI.Ev.ee_3, DI.Ev.ee_4, DI.Ev.ee_5, DI.Ev.ee_6, DI.Ev.ee_7, DI.Ev.ee_8, DI.Ev.ee_9, DI.Ev.ee_10, DI.Ev.ee_11, DI.Ev.ee_12, DI.Ev.ee_13, DI.Ev.ee_14, DI.Ev.ee_15, DI.Ev.ee_16, DI.Ev.ee_17, DI.Ev.ee_18, DI.Ev.ee_19, DI.Ev.ee_20, DI.Ev.ee_21, DI.Ev.ee_22, DI.Ev.ee_23, DI.Ev.ee_24, DI.Ev.ee_25, DI.Ev.ee_26, DI.Ev.ee_27, DI.Ev.ee_28, DI.Ev.ee_29, DI.Ev.ee_30, DI.Ev.es_0, DI.Ev.es_1, DI.Ev.eo_0, DI.Ev.eo_1, DI.Ev.ec_0, DI.Ev.ec_1, DI.Ev.ei_0, DI.Ev.ei_1, DI.Ev.ei_2, DI.Ev.ei_3, DI.Ev.ei_4, DI.Ev.ei_5, DI.Ev.ei_6, DI.Ev.st_0, DI.Ev.st_1, DI.Ev.st_2, DI.Ev.st_3, DI.Ev.st_4, DI.Ev.st_5, DI.Ev.st_6, DI.Ev.st_7, DI.Ev.st_8, DI.Ev.st_9, DI.Ev.st_10, DI.Ev.st_11, DI.Ev.st_12, DI.Ev.st_13, DI.Ev.st_14, DI.Ev.st_17, DI.Ev.st_18, DI.Ev.st_19, DI.Ev.st_20, evH, DI.Ev.compX_nil, DI.Ev.compX_cons, DI.Ev.noX_ok, ↓reduceIte, DI.T.slots, DI.T.slotss, DI.wipeS, DI.Ev.bind_ok, DI.Ev.bind_exc, DI.Ev.out_ok, DI.Ev.out_exc, DI.Ev.seq_nx, DI.Ev.seq_ret, DI.Ev.seq_exc, DI.Ev.seq_brk, DI.Ev.seq_ct, DI.Ev.rnd_nx, DI.Ev.rnd_ct, DI.Ev.rnd_brk, DI.Ev.rnd_ret, DI.Ev.rnd_exc, DI.Ev.tr_nx, DI.Ev.tr_ret, DI.Ev.tr_exc, DI.Ev.fin_ret, DI.Ev.fin_nx, DI.Ev.fin_exc, DI.Ev.st_for, DI.Ev.forF_eq, DI.Ev.e_lcomp, DI.Ev.e_dcomp, DI.Ev.compF_eq, DI.Ev.compG_eq, DI.Ev.forX_cons, DI.Ev.forX_nil, DI.Ev.evF_eq, DI.Ev.nxO_some, DI.Ev.asg_var, DI.Ev.asg_tup, DI.Ev.asg_lst, DI.Ev.asgs_nil, DI.Ev.asgs_cons, DI.Ev.obind, DI.Ev.lift_some, DI.Ev.call_some, DI.Ev.bin_add, DI.Ev.bin_sub, DI.Ev.negD_int, DI.Ev.cmp_lt, DI.Ev.cmp_le, DI.Ev.cmp_gt, DI.Ev.cmp_ge, DI.Ev.cmp_eqI, DI.Ev.cmp_neI, DI.Ev.cmp_eqB, DI.Ev.cmp_neB, DI.Ev.cmp_eqT, splD, List.length_cons, List.length_nil, Nat.reduceAdd, Nat.reduceSub, Nat.reduceLeDiff, Nat.reduceLT, Nat.le_refl, List.cons_append, List.nil_append, List.append_nil, List.map_cons, List.map_nil, List.replicate, List.getElem?_cons_zero, List.getElem?_cons_succ, List.getElem?_nil, List.set_cons_zero, List.set_cons_succ, if_true, if_false, ite_true, ite_false, and_self, and_true, true_and, reduceCtorEq, Bool.not_true, Bool.not_false, decide_true, decide_false, maxLen, idx_tup, atI_0, atI_1, c1, z])]
  have g1 : ((R.filter fun p => decide (p.1 ≤ j)).map fun p => raq p.2).getLast? = some (raq q) := by
    unfold rateAt at hq
    rw [show (fun p : Step => raq p.2) = raq ∘ (·.2) from rfl, ← List.map_map, List.getLast?_map, hq]
    rfl
  simp only [DI.Ev.ss_nil, DI.Ev.ss_cons, DI.Ev.st_try, DI.Ev.ee_0, DI.Ev.ee_1, DI.Ev.ee_2, DI.Ev.ee_3, DI.Ev.ee_4, DI.Ev.ee_5, DI.Ev.ee_6, DI.Ev.ee_7, DI.Ev.ee_8, DI.Ev.ee_9, DI.Ev.ee_10, DI.Ev.ee_11, DI.Ev.ee_12, DI.Ev.ee_13, DI.Ev.ee_14, DI.Ev.ee_15, DI.Ev.ee_16, DI.Ev.ee_17, DI.Ev.ee_18, DI.Ev.ee_19, DI.Ev.ee_20, DI.Ev.ee_21, DI.Ev.ee_22, DI.Ev.ee_23, DI.Ev.ee_24, DI.Ev.ee_25, DI.Ev.ee_26, DI.Ev.ee_27, DI.Ev.ee_28, DI.Ev.ee_29, DI.Ev.ee_30, DI.Ev.es_0, DI.Ev.es_1, DI.Ev.eo_0, DI.Ev.eo_1, DI.Ev.ec_0, DI.Ev.ec_1, DI.Ev.ei_0, DI.Ev.ei_1, DI.Ev.ei_2, DI.Ev.ei_3, DI.Ev.ei_4, DI.Ev.ei_5, DI.Ev.ei_6, DI.Ev.st_0, DI.Ev.st_1, DI.Ev.st_2, DI.Ev.st_3, DI.Ev.st_4, DI.Ev.st_5, DI.Ev.st_6, DI.Ev.st_7, DI.Ev.st_8, DI.Ev.st_9, DI.Ev.st_10, DI.Ev.st_11, DI.Ev.st_12, DI.Ev.st_13, DI.Ev.st_14, DI.Ev.st_17, DI.Ev.st_18, DI.Ev.st_19, DI.Ev.st_20, evH, DI.Ev.compX_nil, DI.Ev.compX_cons, DI.Ev.noX_ok, ↓reduceIte, DI.T.slots, DI.T.slotss, DI.wipeS, DI.Ev.bind_ok, DI.Ev.bind_exc, DI.Ev.out_ok, DI.Ev.out_exc, DI.Ev.seq_nx, DI.Ev.seq_ret, DI.Ev.seq_exc, DI.Ev.seq_brk, DI.Ev.seq_ct, DI.Ev.rnd_nx, DI.Ev.rnd_ct, DI.Ev.rnd_brk, DI.Ev.rnd_ret, DI.Ev.rnd_exc, DI.Ev.tr_nx, DI.Ev.tr_ret, DI.Ev.tr_exc, DI.Ev.fin_ret, DI.Ev.fin_nx, DI.Ev.fin_exc, DI.Ev.st_for, DI.Ev.forF_eq, DI.Ev.e_lcomp, DI.Ev.e_dcomp, DI.Ev.compF_eq, DI.Ev.compG_eq, DI.Ev.forX_cons, DI.Ev.forX_nil, DI.Ev.evF_eq, DI.Ev.nxO_some, DI.Ev.asg_var, DI.Ev.asg_tup, DI.Ev.asg_lst, DI.Ev.asgs_nil, DI.Ev.asgs_cons, DI.Ev.obind, DI.Ev.lift_some, DI.Ev.call_some, DI.Ev.bin_add, DI.Ev.bin_sub, DI.Ev.negD_int, DI.Ev.cmp_lt, DI.Ev.cmp_le, DI.Ev.cmp_gt, DI.Ev.cmp_ge, DI.Ev.cmp_eqI, DI.Ev.cmp_neI, DI.Ev.cmp_eqB, DI.Ev.cmp_neB, DI.Ev.cmp_eqT, splD, List.length_cons, List.length_nil, Nat.reduceAdd, Nat.reduceSub, Nat.reduceLeDiff, Nat.reduceLT, Nat.le_refl, List.cons_append, List.nil_append, List.append_nil, List.map_cons, List.map_nil, List.replicate, List.getElem?_cons_zero, List.getElem?_cons_succ, List.getElem?_nil, List.set_cons_zero, List.set_cons_succ, if_true, if_false, ite_true, ite_false, and_self, and_true, true_and, reduceCtorEq, Bool.not_true, Bool.not_false, decide_true, decide_false, maxLen, idx_lst, atI_last, g1]
theorem steps_ok (R : List Step) : m_Rule_steps [rul R] m = .ok (.lst (R.map pst40)) m := by
  have f2 : g_Rule_steps.fld = flds := rfl
  have b1 : ∀ xs m, biD .list [.lst xs] m = some (.lst xs) := fun _ _ => rfl
  unfold m_Rule_steps ir_Rule_steps
  simp only [DI.Ev.ss_nil, DI.Ev.ss_cons, DI.Ev.st_try, DI.Ev.ee_0, DI.Ev.ee_1, DI.Ev.ee_2, DI.Ev.ee_3, DI.Ev.ee_4, DI.Ev.ee_5, DI.Ev.ee_6, DI.Ev.ee_7, DI.Ev.ee_8, DI.Ev.ee_9, DI.Ev.ee_10, DI.Ev.ee_11, DI.Ev.ee_12, DI.Ev.ee_13, DI.Ev.ee_14, DI.Ev.ee_15, DI.Ev.ee_16, DI.Ev.ee_17, DI.Ev.ee_18, DI.Ev.ee_19, DI.Ev.ee_20, DI.Ev.ee_21, DI.Ev.ee_22, DI.Ev.ee_23, DI.Ev.ee_24, DI.Ev.ee_25, DI.Ev.ee_26, DI.Ev.ee_27, DI.Ev.ee_28, DI.Ev.ee_29, DI.Ev.ee_30, DI.Ev.es_0, DI.Ev.es_1, DI.Ev.eo_0, DI.Ev.eo_1, DI.Ev.ec_0, DI.Ev.ec_1, DI.Ev.ei_0, DI.Ev.ei_1, DI.Ev.ei_2, DI.Ev.ei_3, DI.Ev.ei_4, DI.Ev.ei_5, DI.Ev.ei_6, DI.Ev.st_0, DI.Ev.st_1, DI.Ev.st_2, DI.Ev.st_3, DI.Ev.st_4, DI.Ev.st_5, DI.Ev.st_6, DI.Ev.st_7, DI.Ev.st_8, DI.Ev.st_9, DI.Ev.st_10, DI.Ev.st_11, DI.Ev.st_12, DI.Ev.st_13, DI.Ev.st_14, DI.Ev.st_17, DI.Ev.st_18, DI.Ev.st_19, DI.Ev.st_20, evH, DI.Ev.compX_nil, DI.Ev.compX_cons, DI.Ev.noX_ok, ↓reduceIte, DI.T.slots, DI.T.slotss, DI.wipeS, DI.Ev.bind_ok, DI.Ev.bind_exc, DI.Ev.out_ok, DI.Ev.out_exc, DI.Ev.seq_nx, DI.Ev.seq_ret, DI.Ev.seq_exc, DI.Ev.seq_brk, DI.Ev.seq_ct, DI.Ev.rnd_nx, DI.Ev.rnd_ct, DI.Ev.rnd_brk, DI.Ev.rnd_ret, DI.Ev.rnd_exc, DI.Ev.tr_nx, DI.Ev.tr_ret, DI.Ev.tr_exc, DI.Ev.fin_ret, DI.Ev.fin_nx, DI.Ev.fin_exc, DI.Ev.st_for, DI.Ev.forF_eq, DI.Ev.e_lcomp, DI.Ev.e_dcomp, DI.Ev.compF_eq, DI.Ev.compG_eq, DI.Ev.forX_cons, DI.Ev.forX_nil, DI.Ev.evF_eq, DI.Ev.nxO_some, DI.Ev.asg_var, DI.Ev.asg_tup, DI.Ev.asg_lst, DI.Ev.asgs_nil, DI.Ev.asgs_cons, DI.Ev.obind, DI.Ev.lift_some, DI.Ev.call_some, DI.Ev.bin_add, DI.Ev.bin_sub, DI.Ev.negD_int, DI.Ev.cmp_lt, DI.Ev.cmp_le, DI.Ev.cmp_gt, DI.Ev.cmp_ge, DI.Ev.cmp_eqI, DI.Ev.cmp_neI, DI.Ev.cmp_eqB, DI.Ev.cmp_neB, DI.Ev.cmp_eqT, splD, List.length_cons, List.length_nil, Nat.reduceAdd, Nat.reduceSub, Nat.reduceLeDiff, Nat.reduceLT, Nat.le_refl, List.cons_append, List.nil_append, List.append_nil, List.map_cons, List.map_nil, List.replicate, List.getElem?_cons_zero, List.getElem?_cons_succ, List.getElem?_nil, List.set_cons_zero, List.set_cons_succ, if_true, if_false, ite_true, ite_false, and_self, and_true, true_and, reduceCtorEq, Bool.not_true, Bool.not_false, decide_true, decide_false, maxLen, attr_rows R f2, b1]
theorem bx_same {g : G} {fs : List DI.Sem} {me : List (List (Nat × DI.Sem))} (h : g = withOps fs me) {mi : Nat} {nm : Str} {f : DI.Sem} {R : List Step} (h1 : me[mi]? = some [(1, f)]) (h2 : (nm == Str.ofString "rows") = false) : methD g mi nm (rul R) m = some f := by
  subst h
  have e : (withOps fs me).me = me := rfl
  simp only [methD, rul, insOf, e, h1, List.lookup_cons, h2, List.lookup_nil, if_true, beq_self_eq_true]
theorem nm_rate : (Str.ofString "rate" == Str.ofString "rows") = false := by decide +kernel
theorem nm_steps : (Str.ofString "steps" == Str.ofString "rows") = false := by decide +kernel
end K56
end

section
set_option linter.all false
set_option exponentiation.threshold 100000
set_option maxRecDepth 100000
set_option maxHeartbeats 1000000
namespace K56
open PySem L2 DI
open PyProof.Rows hiding St
open DI.Ev
variable {c d : Int} {y : D} {m : MS}
theorem nt_nn {a b : Int} (ha : 0 ≤ a) (hb : 0 < b) : 0 ≤ nt a b := by
  have e := cross a b
  have p := nb_pos (a := a) (b := b) (by omega)
  rcases Int.lt_or_le (nt a b) 0 with z | z
  · have h1 := Int.mul_neg_of_neg_of_pos z hb
    have h2 := Int.mul_nonneg ha (show 0 ≤ nb a b by omega)
    omega
  · exact z
theorem frac_rate {r den : Int} (h : 0 ≤ r ∧ r ≤ 1000) (h2 : 1 ≤ den ∧ den ≤ 100000000) : ∃ q : Q, (∀ m, m__law_frac [.int r, .int den] m = .ok (prq q) m) ∧ OkQ 30 q ∧ 0 ≤ q.1 := by
  have hd : den ≠ 0 := by omega
  have hb : Bd 30 den := Nat.lt_of_le_of_lt (show den.natAbs ≤ 100000000 by omega) (by decide)
  have hr : Bd 30 r := Nat.lt_of_le_of_lt (show r.natAbs ≤ 1000 by omega) (by decide)
  exact ⟨(nt r den, nb r den), fun m => frac_ok hd (hb.sm (by decide)) m, ⟨nf_of hd, Bd.of_le hr (nt_le hd), Bd.of_le hb (nb_le hd)⟩, nt_nn h.1 (by omega)⟩
theorem OkQ.mono {j k : Nat} {q : Q} (h : OkQ j q) (hk : j ≤ k) : OkQ k q := ⟨h.nf, h.b1.mono hk, h.b2.mono hk⟩
theorem den_of {d : Int} (h : 0 ≤ d) (h2 : d < 4) : ∃ z : Int, (∀ m, idxD (.lst [.int 1, .int 10, .int 100, .int 1000003]) (.int d) m = some (.int z)) ∧ 1 ≤ z ∧ z ≤ 1000003 := by
  obtain ⟨x, hx, e⟩ := atI_mem (xs := [.int 1, .int 10, .int 100, .int 1000003]) h h2
  simp only [List.mem_cons, List.not_mem_nil, or_false] at hx
  rcases hx with rfl | rfl | rfl | rfl <;> exact ⟨_, fun m => e, by decide, by decide⟩
theorem OkS.snoc {L : List Step} (h : OkS L) {l p : Step} (hl : L.getLast? = some l) (h1 : l.1 < p.1) (h2 : p.1 ≤ 40) (hq : OkQ 60 p.2 ∧ 0 ≤ p.2.1) (hn : L.length ≤ 40) : OkS (L ++ [p]) := by
  have ml : l ∈ L := List.mem_of_getLast? hl
  have le : ∀ q ∈ L, q.1 ≤ l.1 := fun q hq => by
    rw [List.getLast?_eq_some_iff] at hl
    obtain ⟨ys, rfl⟩ := hl
    rcases List.mem_append.mp hq with z | z
    · have := (List.pairwise_append.mp h.asc).2.2 q z l (List.mem_singleton.mpr rfl)
      omega
    · rw [List.mem_singleton.mp z]; exact Int.le_refl _
  refine ⟨List.pairwise_append.mpr ⟨h.asc, List.pairwise_singleton _ _, fun a ha b hb => by rw [List.mem_singleton.mp hb]; have := le a ha; omega⟩, ?_, fun q hq' => ?_, fun q hq' => ?_, by simp; omega⟩
  · obtain ⟨q, T, rfl⟩ := h.head
    exact ⟨q, T ++ [p], rfl⟩
  · rcases List.mem_append.mp hq' with z | z
    · exact h.rng q z
    · rw [List.mem_singleton.mp z]
      have := (h.rng l ml).1
      exact ⟨by omega, h2⟩
  · rcases List.mem_append.mp hq' with z | z
    · exact h.rate q z
    · rw [List.mem_singleton.mp z]; exact hq
/-- so many fortieths on -/
theorem plus_use {j e : Int} (hj : 0 ≤ j ∧ j ≤ 40) (he : 1 ≤ e ∧ e ≤ 4) : m__law_plus [prq (uq j), .tup [.int (nt e 10), .int (nb e 10)]] m = .ok (prq (uq (j + 4 * e))) m := by
  have hu := uq_ok hj
  have h10 : (10 : Int) ≠ 0 := by decide
  have b1 : Bd 10 (nt e 10) := Bd.of_le (bd10 (by omega)) (nt_le h10)
  have b2 : Bd 10 (nb e 10) := Bd.of_le (bd10 (i := 10) (by decide)) (nb_le (a := e) h10)
  have nb0 : nb e 10 ≠ 0 := by have := nb_pos (a := e) h10; omega
  have hbd : (uq j).2 * nb e 10 ≠ 0 := Int.mul_ne_zero hu.nf.ne nb0
  have e1 := plus_ok (m := m) hu.nf.ne nb0 (hu.b1.sm (by decide)) (hu.b2.sm (by decide)) (b1.sm (by decide)) (b2.sm (by decide)) ((hu.b2.mul b2).sm (by decide))
  have e2 : uq (j + 4 * e) = (nt ((uq j).1 * nb e 10 + nt e 10 * (uq j).2) ((uq j).2 * nb e 10), nb ((uq j).1 * nb e 10 + nt e 10 * (uq j).2) ((uq j).2 * nb e 10)) := by
    refine uq_of (nf_of hbd) ?_
    have k1 := cross ((uq j).1 * nb e 10 + nt e 10 * (uq j).2) ((uq j).2 * nb e 10)
    have k2 := uq_cross j
    have k3 := cross e 10
    apply Int.eq_of_mul_eq_mul_right hbd
    grind
  unfold prq
  rw [e2]
  exact e1
theorem less_one {j : Int} (hj : 0 ≤ j ∧ j ≤ 1000) : m__law_less [.tup [.int 1, .int 1], prq (uq j)] m = .ok (.bl (decide (40 < j))) m := by
  have b1 : Bd 20 (uq j).1 := Bd.of_le (Nat.lt_of_le_of_lt (show j.natAbs ≤ 1000 by omega) (by decide)) (nt_le (by decide))
  have b2 : Bd 20 (uq j).2 := Bd.of_le (Nat.lt_of_le_of_lt (show (40 : Int).natAbs ≤ 1000 by decide) (by decide)) (nb_le (a := j) (b := 40) (by decide))
  have e := less_ok (m := m) (a := 1) (b := 1) (sm_of (by decide)) (sm_of (by decide)) (b1.sm (by decide)) (b2.sm (by decide))
  have := uq_lt 40 j
  rw [uq_40] at this
  rw [decide_eq_decide.mpr this] at e
  exact e
def bodySt : List S := match ir__law_steps with | _ :: .for_ _ _ b :: _ => b | _ => []
def headSt : S := match ir__law_steps with | s :: _ => s | _ => .pass
theorem st_eq : ir__law_steps = [headSt, .for_ (.var 3) (.rng (.call 1 [(.var 0), (.var 1)] [])) bodySt, .retO 2] := rfl
theorem bi_intB (b : Bool) : biD .int [.bl b] m = some (.int (if b = true then 1 else 0)) := rfl
theorem st_turn {i : Nat} {w c q : Int} (b : Bx m i w c q) (hc : c ≤ 1000) {L : List Step} (h : OkS L) (h30 : ∀ p ∈ L, OkQ 30 p.2) (hn : L.length ≤ 40) (a1 a3 a4 a5 a6 : Option SV) :
    ∃ L' b4 b5 b6 m' w' c', (evSs g__law_steps bodySt [some (.sh (.ref i)), a1, some (.ow (.lst (L.map lst40))), a3, a4, a5, a6] m = .nx [some (.sh (.ref i)), a1, some (.ow (.lst (L'.map lst40))), a3, b4, b5, b6] m' ∨
      evSs g__law_steps bodySt [some (.sh (.ref i)), a1, some (.ow (.lst (L.map lst40))), a3, a4, a5, a6] m = .brk [some (.sh (.ref i)), a1, some (.ow (.lst (L'.map lst40))), a3, b4, b5, b6] m') ∧ OkS L' ∧ (∀ p ∈ L', OkQ 30 p.2) ∧ L'.length ≤ L.length + 1 ∧ Bx m' i w' c' q ∧ c' ≤ c + 4 := by
  have f1 : g__law_steps.fn = [m__law_frac, m__law_take, m__law_plus, m__law_less] := rfl
  obtain ⟨l, hl⟩ : ∃ l, L.getLast? = some l := by
    obtain ⟨q, T, rfl⟩ := h.head
    exact ⟨_, List.getLast?_cons⟩
  have hlr := h.rng l (List.mem_of_getLast? hl)
  have g1 : (L.map lst40).getLast? = some (.tup [prq (uq l.1), prq l.2]) := by rw [List.getLast?_map, hl]; rfl
  obtain ⟨d1, m1, w1, c1, t1, p1, p1', b1, k1⟩ := take_ok b (by omega) (k := 4) (by decide) (sm_of (by decide))
  have fr : ∀ m, m__law_frac [.int (1 + d1), .int 10] m = .ok (.tup [.int (nt (1 + d1) 10), .int (nb (1 + d1) 10)]) m := fun m => frac_ok (by decide) (sm_of (by decide)) m
  have pl : ∀ m, m__law_plus [prq (uq l.1), .tup [.int (nt (1 + d1) 10), .int (nb (1 + d1) 10)]] m = .ok (prq (uq (l.1 + 4 * (1 + d1)))) m := fun m => plus_use hlr (by omega)
  have le : ∀ m, m__law_less [.tup [.int 1, .int 1], prq (uq (l.1 + 4 * (1 + d1)))] m = .ok (.bl (decide (40 < l.1 + 4 * (1 + d1)))) m := fun m => less_one (by omega)
  by_cases z : 40 < l.1 + 4 * (1 + d1)
  · refine ⟨L, some (.sh (prq (uq l.1))), some (.sh (prq (uq (l.1 + 4 * (1 + d1))))), a6, m1, w1, c1, .inr ?_, h, h30, by omega, b1, by omega⟩
    unfold bodySt ir__law_steps
    simp only [DI.Ev.ss_nil, DI.Ev.ss_cons, DI.Ev.st_try, DI.Ev.ee_0, DI.Ev.ee_1, DI.Ev.ee_2, DI.Ev.ee_3, DI.Ev.ee_4, DI.Ev.ee_5, DI.Ev.ee_6, DI.Ev.ee_7, DI.Ev.ee_8, DI.Ev.ee_9, DI.Ev.ee_10, DI.Ev.ee_11, DI.Ev.ee_12, DI.Ev.ee_13, DI.Ev.ee_14, DI.Ev.ee_15, DI.Ev.ee_16, DI.Ev.ee_17, DI.Ev.ee_18, DI.Ev.ee_19, DI.Ev.ee_20, DI.Ev.ee_21, DI.Ev.ee_22, DI.Ev.ee_23, DI.Ev.ee_24, DI.Ev.ee_25, DI.Ev.ee_26, DI.Ev.ee_27, DI.Ev.ee_28, DI.Ev.ee_29, DI.Ev.ee_30, DI.Ev.es_0, DI.Ev.es_1, DI.Ev.eo_0, DI.Ev.eo_1, DI.Ev.ec_0, DI.Ev.ec_1, DI.Ev.ei_0, DI.Ev.ei_1, DI.Ev.ei_2, DI.Ev.ei_3, DI.Ev.ei_4, DI.Ev.ei_5, DI.Ev.ei_6, DI.Ev.st_0, DI.Ev.st_1, DI.Ev.st_2, DI.Ev.st_3, DI.Ev.st_4, DI.Ev.st_5, DI.Ev.st_6, DI.Ev.st_7, DI.Ev.st_8, DI.Ev.st_9, DI.Ev.st_10, DI.Ev.st_11, DI.Ev.st_12, DI.Ev.st_13, DI.Ev.st_14, DI.Ev.st_17, DI.Ev.st_18, DI.Ev.st_19, DI.Ev.st_20, evH, DI.Ev.compX_nil, DI.Ev.compX_cons, DI.Ev.noX_ok, ↓reduceIte, DI.T.slots, DI.T.slotss, DI.wipeS, DI.Ev.bind_ok, DI.Ev.bind_exc, DI.Ev.out_ok, DI.Ev.out_exc, DI.Ev.seq_nx, DI.Ev.seq_ret, DI.Ev.seq_exc, DI.Ev.seq_brk, DI.Ev.seq_ct, DI.Ev.rnd_nx, DI.Ev.rnd_ct, DI.Ev.rnd_brk, DI.Ev.rnd_ret, DI.Ev.rnd_exc, DI.Ev.tr_nx, DI.Ev.tr_ret, DI.Ev.tr_exc, DI.Ev.fin_ret, DI.Ev.fin_nx, DI.Ev.fin_exc, DI.Ev.st_for, DI.Ev.forF_eq, DI.Ev.e_lcomp, DI.Ev.e_dcomp, DI.Ev.compF_eq, DI.Ev.compG_eq, DI.Ev.forX_cons, DI.Ev.forX_nil, DI.Ev.evF_eq, DI.Ev.nxO_some, DI.Ev.asg_var, DI.Ev.asg_tup, DI.Ev.asg_lst, DI.Ev.asgs_nil, DI.Ev.asgs_cons, DI.Ev.obind, DI.Ev.lift_some, DI.Ev.call_some, DI.Ev.bin_add, DI.Ev.bin_sub, DI.Ev.negD_int, DI.Ev.cmp_lt, DI.Ev.cmp_le, DI.Ev.cmp_gt, DI.Ev.cmp_ge, DI.Ev.cmp_eqI, DI.Ev.cmp_neI, DI.Ev.cmp_eqB, DI.Ev.cmp_neB, DI.Ev.cmp_eqT, splD, List.length_cons, List.length_nil, Nat.reduceAdd, Nat.reduceSub, Nat.reduceLeDiff, Nat.reduceLT, Nat.le_refl, List.cons_append, List.nil_append, List.append_nil, List.map_cons, List.map_nil, List.replicate, List.getElem?_cons_zero, List.getElem?_cons_succ, List.getElem?_nil, List.set_cons_zero, List.set_cons_succ, if_true, if_false, ite_true, ite_false, and_self, and_true, true_and, reduceCtorEq, Bool.not_true, Bool.not_false, decide_true, decide_false, maxLen, atI_last, g1, idx_tup, atI_0, f1, t1, fr, pl, le, z]
  · obtain ⟨d2, m2, w2, c2, t2, p2, p2', b2, k2⟩ := take_ok b1 (by omega) (k := 6) (by decide) (sm_of (by decide))
    obtain ⟨d3, m3, w3, c3, t3, p3, p3', b3, k3⟩ := take_ok b2 (by omega) (k := 4) (by decide) (sm_of (by decide))
    obtain ⟨d4, m4, w4, c4, t4, p4, p4', b4, k4⟩ := take_ok b3 (by omega) (k := 4) (by decide) (sm_of (by decide))
    obtain ⟨den, ed, e1, e2⟩ := den_of p3 p3'
    obtain ⟨rq, er, o1, o2⟩ := frac_rate (r := d2) (den := den) (by omega) (by omega)
    have hll : (L.map lst40).length < 100000 := by rw [List.length_map]; omega
    obtain ⟨nq, en, oq⟩ : ∃ nq : Q, (∀ m, idxD (.lst [prq rq, prq l.2]) (.int (if decide (d4 = 0) = true then 1 else 0)) m = some (prq nq)) ∧ OkQ 30 nq ∧ 0 ≤ nq.1 := by
      by_cases hz : d4 = 0
      · exact ⟨l.2, fun m => by rw [if_pos (by simpa using hz)]; exact atI_1 _ _ _, h30 l (List.mem_of_getLast? hl), (h.rate l (List.mem_of_getLast? hl)).2⟩
      · exact ⟨rq, fun m => by rw [if_neg (by simpa using hz)]; exact atI_0 _ _, o1, o2⟩
    refine ⟨L ++ [(l.1 + 4 * (1 + d1), nq)], some (.sh (prq (uq l.1))), some (.sh (prq (uq (l.1 + 4 * (1 + d1))))), some (.sh (prq rq)), m4, w4, c4, .inl ?_, h.snoc (p := (l.1 + 4 * (1 + d1), nq)) hl (by simp; omega) (by simp; omega) ⟨oq.1.mono (by decide), oq.2⟩ hn, fun p hp => (List.mem_append.mp hp).elim (h30 p) (fun z => by rw [List.mem_singleton.mp z]; exact oq.1), by simp, b4, by omega⟩
    unfold bodySt ir__law_steps
    simp only [DI.Ev.ss_nil, DI.Ev.ss_cons, DI.Ev.st_try, DI.Ev.ee_0, DI.Ev.ee_1, DI.Ev.ee_2, DI.Ev.ee_3, DI.Ev.ee_4, DI.Ev.ee_5, DI.Ev.ee_6, DI.Ev.ee_7, DI.Ev.ee_8, DI.Ev.ee_9, DI.Ev.ee_10, DI.Ev.ee_11, DI.Ev.ee_12, DI.Ev.ee_13, DI.Ev.ee_14, DI.Ev.ee_15, DI.Ev.ee_16, DI.Ev.ee_17, DI.Ev.ee_18, DI.Ev.ee_19, DI.Ev.ee_20, DI.Ev.ee_21, DI.Ev.ee_22, DI.Ev.ee_23, DI.Ev.ee_24, DI.Ev.ee_25, DI.Ev.ee_26, DI.Ev.ee_27, DI.Ev.ee_28, DI.Ev.ee_29, DI.Ev.ee_30, DI.Ev.es_0, DI.Ev.es_1, DI.Ev.eo_0, DI.Ev.eo_1, DI.Ev.ec_0, DI.Ev.ec_1, DI.Ev.ei_0, DI.Ev.ei_1, DI.Ev.ei_2, DI.Ev.ei_3, DI.Ev.ei_4, DI.Ev.ei_5, DI.Ev.ei_6, DI.Ev.st_0, DI.Ev.st_1, DI.Ev.st_2, DI.Ev.st_3, DI.Ev.st_4, DI.Ev.st_5, DI.Ev.st_6, DI.Ev.st_7, DI.Ev.st_8, DI.Ev.st_9, DI.Ev.st_10, DI.Ev.st_11, DI.Ev.st_12, DI.Ev.st_13, DI.Ev.st_14, DI.Ev.st_17, DI.Ev.st_18, DI.Ev.st_19, DI.Ev.st_20, evH, DI.Ev.compX_nil, DI.Ev.compX_cons, DI.Ev.noX_ok, ↓reduceIte, DI.T.slots, DI.T.slotss, DI.wipeS, DI.Ev.bind_ok, DI.Ev.bind_exc, DI.Ev.out_ok, DI.Ev.out_exc, DI.Ev.seq_nx, DI.Ev.seq_ret, DI.Ev.seq_exc, DI.Ev.seq_brk, DI.Ev.seq_ct, DI.Ev.rnd_nx, DI.Ev.rnd_ct, DI.Ev.rnd_brk, DI.Ev.rnd_ret, DI.Ev.rnd_exc, DI.Ev.tr_nx, DI.Ev.tr_ret, DI.Ev.tr_exc, DI.Ev.fin_ret, DI.Ev.fin_nx, DI.Ev.fin_exc, DI.Ev.st_for, DI.Ev.forF_eq, DI.Ev.e_lcomp, DI.Ev.e_dcomp, DI.Ev.compF_eq, DI.Ev.compG_eq, DI.Ev.forX_cons, DI.Ev.forX_nil, DI.Ev.evF_eq, DI.Ev.nxO_some, DI.Ev.asg_var, DI.Ev.asg_tup, DI.Ev.asg_lst, DI.Ev.asgs_nil, DI.Ev.asgs_cons, DI.Ev.obind, DI.Ev.lift_some, DI.Ev.call_some, DI.Ev.bin_add, DI.Ev.bin_sub, DI.Ev.negD_int, DI.Ev.cmp_lt, DI.Ev.cmp_le, DI.Ev.cmp_gt, DI.Ev.cmp_ge, DI.Ev.cmp_eqI, DI.Ev.cmp_neI, DI.Ev.cmp_eqB, DI.Ev.cmp_neB, DI.Ev.cmp_eqT, splD, List.length_cons, List.length_nil, Nat.reduceAdd, Nat.reduceSub, Nat.reduceLeDiff, Nat.reduceLT, Nat.le_refl, List.cons_append, List.nil_append, List.append_nil, List.map_cons, List.map_nil, List.replicate, List.getElem?_cons_zero, List.getElem?_cons_succ, List.getElem?_nil, List.set_cons_zero, List.set_cons_succ, if_true, if_false, ite_true, ite_false, and_self, and_true, true_and, reduceCtorEq, Bool.not_true, Bool.not_false, decide_true, decide_false, maxLen, atI_last, g1, idx_tup, atI_0, atI_1, f1, t1, fr, pl, le, z, t2, t3, ed, er, t4, bi_intB, en, hll]
    rw [List.map_append]
    rfl
theorem st_loop {i : Nat} {q : Int} (a1 : Option SV) : ∀ (xs : List D) {m : MS} {w c : Int} {L : List Step} (a3 a4 a5 a6 : Option SV), Bx m i w c q → c + 4 * xs.length ≤ 900 → OkS L → (∀ p ∈ L, OkQ 30 p.2) → L.length + xs.length ≤ 40 →
    ∃ L' b3 b4 b5 b6 m' w' c', forX (forF g__law_steps (.var 3) bodySt) xs [some (.sh (.ref i)), a1, some (.ow (.lst (L.map lst40))), a3, a4, a5, a6] m = .nx [some (.sh (.ref i)), a1, some (.ow (.lst (L'.map lst40))), b3, b4, b5, b6] m' ∧ OkS L' ∧ (∀ p ∈ L', OkQ 30 p.2) ∧ Bx m' i w' c' q ∧ c' ≤ c + 4 * xs.length
  | [], m, w, c, L, a3, a4, a5, a6, b, hc, h, h30, hn => ⟨L, a3, a4, a5, a6, m, w, c, rfl, h, h30, b, by simp⟩
  | x :: xs, m, w, c, L, a3, a4, a5, a6, b, hc, h, h30, hn => by
    simp only [List.length_cons] at hc hn
    obtain ⟨L', b4, b5, b6, m', w', c', e, h', h30', hl, b', k⟩ := st_turn b (by omega) h h30 (by omega) a1 (some (.sh x)) a4 a5 a6
    have t : asgT (.var 3) x [some (.sh (.ref i)), a1, some (.ow (.lst (L.map lst40))), a3, a4, a5, a6] = some [some (.sh (.ref i)), a1, some (.ow (.lst (L.map lst40))), some (.sh x), a4, a5, a6] := rfl
    rcases e with e | e
    · obtain ⟨L2, c3, c4, c5, c6, m2, w2, c2, e2, h2, h302, b2, k2⟩ := st_loop a1 xs (some (.sh x)) b4 b5 b6 b' (by omega) h' h30' (by omega)
      refine ⟨L2, c3, c4, c5, c6, m2, w2, c2, ?_, h2, h302, b2, by simp only [List.length_cons]; omega⟩
      rw [forX_cons, forF_ap _ _ _ t, e, rnd_nx]
      exact e2
    · refine ⟨L', some (.sh x), b4, b5, b6, m', w', c', ?_, h', h30', b', by simp only [List.length_cons]; omega⟩
      rw [forX_cons, forF_ap _ _ _ t, e, rnd_brk]
theorem rng_len {n : Int} (h : 0 ≤ n ∧ n ≤ 1000) : ∃ xs : List D, rngD 0 n = some xs ∧ xs.length = n.toNat := by
  refine ⟨_, if_pos ⟨by decide, by decide, by omega, by omega⟩, by simp⟩
theorem law_steps_ok {i : Nat} {w c q : Int} (b : Bx m i w c q) (hc : c ≤ 800) : ∃ L m' w' c', m__law_steps [.ref i, .int 6] m = .ok (.lst (L.map lst40)) m' ∧ OkS L ∧ (∀ p ∈ L, OkQ 30 p.2) ∧ Bx m' i w' c' q ∧ c' ≤ c + 30 := by
  have f1 : g__law_steps.fn = [m__law_frac, m__law_take, m__law_plus, m__law_less] := rfl
  obtain ⟨d1, m1, w1, c1, t1, p1, p1', b1, k1⟩ := take_ok b (by omega) (k := 6) (by decide) (sm_of (by decide))
  obtain ⟨d2, m2, w2, c2, t2, p2, p2', b2, k2⟩ := take_ok b1 (by omega) (k := 4) (by decide) (sm_of (by decide))
  obtain ⟨d3, m3, w3, c3, t3, p3, p3', b3, k3⟩ := take_ok b2 (by omega) (k := 6) (by decide) (sm_of (by decide))
  obtain ⟨den, ed, e1, e2⟩ := den_of p2 p2'
  obtain ⟨rq, er, o1, o2⟩ := frac_rate (r := d1) (den := den) (by omega) (by omega)
  obtain ⟨xs, ex, lx⟩ := rng_len (n := d3) (by omega)
  have h0 : OkS [(0, rq)] := ⟨List.pairwise_singleton _ _, ⟨rq, [], rfl⟩, fun p hp => by rw [List.mem_singleton.mp hp]; exact ⟨Int.le_refl _, show (0 : Int) ≤ 40 by decide⟩, fun p hp => by rw [List.mem_singleton.mp hp]; exact ⟨o1.mono (by decide), o2⟩, by simp⟩
  obtain ⟨L', b3', b4', b5', b6', m', w', c', e, h', h30', b', k⟩ := st_loop (q := q) (some (.sh (.int 6))) xs (L := [(0, rq)]) none none none none b3 (by omega) h0 (fun p hp => by rw [List.mem_singleton.mp hp]; exact o1) (by simp; omega)
  have hh : evS g__law_steps headSt [some (.sh (.ref i)), some (.sh (.int 6)), none, none, none, none, none] m = .nx [some (.sh (.ref i)), some (.sh (.int 6)), some (.ow (.lst ([(0, rq)].map lst40))), none, none, none, none] m2 := by
    unfold headSt ir__law_steps
    simp only [DI.Ev.ss_nil, DI.Ev.ss_cons, DI.Ev.st_try, DI.Ev.ee_0, DI.Ev.ee_1, DI.Ev.ee_2, DI.Ev.ee_3, DI.Ev.ee_4, DI.Ev.ee_5, DI.Ev.ee_6, DI.Ev.ee_7, DI.Ev.ee_8, DI.Ev.ee_9, DI.Ev.ee_10, DI.Ev.ee_11, DI.Ev.ee_12, DI.Ev.ee_13, DI.Ev.ee_14, DI.Ev.ee_15, DI.Ev.ee_16, DI.Ev.ee_17, DI.Ev.ee_18, DI.Ev.ee_19, DI.Ev.ee_20, DI.Ev.ee_21, DI.Ev.ee_22, DI.Ev.ee_23, DI.Ev.ee_24, DI.Ev.ee_25, DI.Ev.ee_26, DI.Ev.ee_27, DI.Ev.ee_28, DI.Ev.ee_29, DI.Ev.ee_30, DI.Ev.es_0, DI.Ev.es_1, DI.Ev.eo_0, DI.Ev.eo_1, DI.Ev.ec_0, DI.Ev.ec_1, DI.Ev.ei_0, DI.Ev.ei_1, DI.Ev.ei_2, DI.Ev.ei_3, DI.Ev.ei_4, DI.Ev.ei_5, DI.Ev.ei_6, DI.Ev.st_0, DI.Ev.st_1, DI.Ev.st_2, DI.Ev.st_3, DI.Ev.st_4, DI.Ev.st_5, DI.Ev.st_6, DI.Ev.st_7, DI.Ev.st_8, DI.Ev.st_9, DI.Ev.st_10, DI.Ev.st_11, DI.Ev.st_12, DI.Ev.st_13, DI.Ev.st_14, DI.Ev.st_17, DI.Ev.st_18, DI.Ev.st_19, DI.Ev.st_20, evH, DI.Ev.compX_nil, DI.Ev.compX_cons, DI.Ev.noX_ok, ↓reduceIte, DI.T.slots, DI.T.slotss, DI.wipeS, DI.Ev.bind_ok, DI.Ev.bind_exc, DI.Ev.out_ok, DI.Ev.out_exc, DI.Ev.seq_nx, DI.Ev.seq_ret, DI.Ev.seq_exc, DI.Ev.seq_brk, DI.Ev.seq_ct, DI.Ev.rnd_nx, DI.Ev.rnd_ct, DI.Ev.rnd_brk, DI.Ev.rnd_ret, DI.Ev.rnd_exc, DI.Ev.tr_nx, DI.Ev.tr_ret, DI.Ev.tr_exc, DI.Ev.fin_ret, DI.Ev.fin_nx, DI.Ev.fin_exc, DI.Ev.st_for, DI.Ev.forF_eq, DI.Ev.e_lcomp, DI.Ev.e_dcomp, DI.Ev.compF_eq, DI.Ev.compG_eq, DI.Ev.forX_cons, DI.Ev.forX_nil, DI.Ev.evF_eq, DI.Ev.nxO_some, DI.Ev.asg_var, DI.Ev.asg_tup, DI.Ev.asg_lst, DI.Ev.asgs_nil, DI.Ev.asgs_cons, DI.Ev.obind, DI.Ev.lift_some, DI.Ev.call_some, DI.Ev.bin_add, DI.Ev.bin_sub, DI.Ev.negD_int, DI.Ev.cmp_lt, DI.Ev.cmp_le, DI.Ev.cmp_gt, DI.Ev.cmp_ge, DI.Ev.cmp_eqI, DI.Ev.cmp_neI, DI.Ev.cmp_eqB, DI.Ev.cmp_neB, DI.Ev.cmp_eqT, splD, List.length_cons, List.length_nil, Nat.reduceAdd, Nat.reduceSub, Nat.reduceLeDiff, Nat.reduceLT, Nat.le_refl, List.cons_append, List.nil_append, List.append_nil, List.map_cons, List.map_nil, List.replicate, List.getElem?_cons_zero, List.getElem?_cons_succ, List.getElem?_nil, List.set_cons_zero, List.set_cons_succ, if_true, if_false, ite_true, ite_false, and_self, and_true, true_and, reduceCtorEq, Bool.not_true, Bool.not_false, decide_true, decide_false, maxLen, f1, t1, t2, ed, er]
    unfold lst40
    rw [uq_0]
    rfl
  refine ⟨L', m', w', c', ?_, h', h30', b', by omega⟩
  unfold m__law_steps
  rw [st_eq]
  simp only [evF_eq, List.length_cons, List.length_nil, Nat.reduceAdd, if_true, List.map_cons, List.map_nil, Nat.reduceSub, List.replicate, List.cons_append, List.nil_append]
  rw [ss_cons, hh, seq_nx]
  simp only [List.map_cons, List.map_nil] at e
  simp only [DI.Ev.ss_nil, DI.Ev.ss_cons, DI.Ev.st_try, DI.Ev.ee_0, DI.Ev.ee_1, DI.Ev.ee_2, DI.Ev.ee_3, DI.Ev.ee_4, DI.Ev.ee_5, DI.Ev.ee_6, DI.Ev.ee_7, DI.Ev.ee_8, DI.Ev.ee_9, DI.Ev.ee_10, DI.Ev.ee_11, DI.Ev.ee_12, DI.Ev.ee_13, DI.Ev.ee_14, DI.Ev.ee_15, DI.Ev.ee_16, DI.Ev.ee_17, DI.Ev.ee_18, DI.Ev.ee_19, DI.Ev.ee_20, DI.Ev.ee_21, DI.Ev.ee_22, DI.Ev.ee_23, DI.Ev.ee_24, DI.Ev.ee_25, DI.Ev.ee_26, DI.Ev.ee_27, DI.Ev.ee_28, DI.Ev.ee_29, DI.Ev.ee_30, DI.Ev.es_0, DI.Ev.es_1, DI.Ev.eo_0, DI.Ev.eo_1, DI.Ev.ec_0, DI.Ev.ec_1, DI.Ev.ei_0, DI.Ev.ei_1, DI.Ev.ei_2, DI.Ev.ei_3, DI.Ev.ei_4, DI.Ev.ei_5, DI.Ev.ei_6, DI.Ev.st_0, DI.Ev.st_1, DI.Ev.st_2, DI.Ev.st_3, DI.Ev.st_4, DI.Ev.st_5, DI.Ev.st_6, DI.Ev.st_7, DI.Ev.st_8, DI.Ev.st_9, DI.Ev.st_10, DI.Ev.st_11, DI.Ev.st_12, DI.Ev.st_13, DI.Ev.st_14, DI.Ev.st_17, DI.Ev.st_18, DI.Ev.st_19, DI.Ev.st_20, evH, DI.Ev.compX_nil, DI.Ev.compX_cons, DI.Ev.noX_ok, ↓reduceIte, DI.T.slots, DI.T.slotss, DI.wipeS, DI.Ev.bind_ok, DI.Ev.bind_exc, DI.Ev.out_ok, DI.Ev.out_exc, DI.Ev.seq_nx, DI.Ev.seq_ret, DI.Ev.seq_exc, DI.Ev.seq_brk, DI.Ev.seq_ct, DI.Ev.rnd_nx, DI.Ev.rnd_ct, DI.Ev.rnd_brk, DI.Ev.rnd_ret, DI.Ev.rnd_exc, DI.Ev.tr_nx, DI.Ev.tr_ret, DI.Ev.tr_exc, DI.Ev.fin_ret, DI.Ev.fin_nx, DI.Ev.fin_exc, DI.Ev.st_for, DI.Ev.forF_eq, DI.Ev.e_lcomp, DI.Ev.e_dcomp, DI.Ev.compF_eq, DI.Ev.compG_eq, DI.Ev.forX_cons, DI.Ev.forX_nil, DI.Ev.evF_eq, DI.Ev.nxO_some, DI.Ev.asg_var, DI.Ev.asg_tup, DI.Ev.asg_lst, DI.Ev.asgs_nil, DI.Ev.asgs_cons, DI.Ev.obind, DI.Ev.lift_some, DI.Ev.call_some, DI.Ev.bin_add, DI.Ev.bin_sub, DI.Ev.negD_int, DI.Ev.cmp_lt, DI.Ev.cmp_le, DI.Ev.cmp_gt, DI.Ev.cmp_ge, DI.Ev.cmp_eqI, DI.Ev.cmp_neI, DI.Ev.cmp_eqB, DI.Ev.cmp_neB, DI.Ev.cmp_eqT, splD, List.length_cons, List.length_nil, Nat.reduceAdd, Nat.reduceSub, Nat.reduceLeDiff, Nat.reduceLT, Nat.le_refl, List.cons_append, List.nil_append, List.append_nil, List.map_cons, List.map_nil, List.replicate, List.getElem?_cons_zero, List.getElem?_cons_succ, List.getElem?_nil, List.set_cons_zero, List.set_cons_succ, if_true, if_false, ite_true, ite_false, and_self, and_true, true_and, reduceCtorEq, Bool.not_true, Bool.not_false, decide_true, decide_false, maxLen, f1, t3, ex]
  rw [e]
  simp only [DI.Ev.ss_nil, DI.Ev.ss_cons, DI.Ev.st_try, DI.Ev.ee_0, DI.Ev.ee_1, DI.Ev.ee_2, DI.Ev.ee_3, DI.Ev.ee_4, DI.Ev.ee_5, DI.Ev.ee_6, DI.Ev.ee_7, DI.Ev.ee_8, DI.Ev.ee_9, DI.Ev.ee_10, DI.Ev.ee_11, DI.Ev.ee_12, DI.Ev.ee_13, DI.Ev.ee_14, DI.Ev.ee_15, DI.Ev.ee_16, DI.Ev.ee_17, DI.Ev.ee_18, DI.Ev.ee_19, DI.Ev.ee_20, DI.Ev.ee_21, DI.Ev.ee_22, DI.Ev.ee_23, DI.Ev.ee_24, DI.Ev.ee_25, DI.Ev.ee_26, DI.Ev.ee_27, DI.Ev.ee_28, DI.Ev.ee_29, DI.Ev.ee_30, DI.Ev.es_0, DI.Ev.es_1, DI.Ev.eo_0, DI.Ev.eo_1, DI.Ev.ec_0, DI.Ev.ec_1, DI.Ev.ei_0, DI.Ev.ei_1, DI.Ev.ei_2, DI.Ev.ei_3, DI.Ev.ei_4, DI.Ev.ei_5, DI.Ev.ei_6, DI.Ev.st_0, DI.Ev.st_1, DI.Ev.st_2, DI.Ev.st_3, DI.Ev.st_4, DI.Ev.st_5, DI.Ev.st_6, DI.Ev.st_7, DI.Ev.st_8, DI.Ev.st_9, DI.Ev.st_10, DI.Ev.st_11, DI.Ev.st_12, DI.Ev.st_13, DI.Ev.st_14, DI.Ev.st_17, DI.Ev.st_18, DI.Ev.st_19, DI.Ev.st_20, evH, DI.Ev.compX_nil, DI.Ev.compX_cons, DI.Ev.noX_ok, ↓reduceIte, DI.T.slots, DI.T.slotss, DI.wipeS, DI.Ev.bind_ok, DI.Ev.bind_exc, DI.Ev.out_ok, DI.Ev.out_exc, DI.Ev.seq_nx, DI.Ev.seq_ret, DI.Ev.seq_exc, DI.Ev.seq_brk, DI.Ev.seq_ct, DI.Ev.rnd_nx, DI.Ev.rnd_ct, DI.Ev.rnd_brk, DI.Ev.rnd_ret, DI.Ev.rnd_exc, DI.Ev.tr_nx, DI.Ev.tr_ret, DI.Ev.tr_exc, DI.Ev.fin_ret, DI.Ev.fin_nx, DI.Ev.fin_exc, DI.Ev.st_for, DI.Ev.forF_eq, DI.Ev.e_lcomp, DI.Ev.e_dcomp, DI.Ev.compF_eq, DI.Ev.compG_eq, DI.Ev.forX_cons, DI.Ev.forX_nil, DI.Ev.evF_eq, DI.Ev.nxO_some, DI.Ev.asg_var, DI.Ev.asg_tup, DI.Ev.asg_lst, DI.Ev.asgs_nil, DI.Ev.asgs_cons, DI.Ev.obind, DI.Ev.lift_some, DI.Ev.call_some, DI.Ev.bin_add, DI.Ev.bin_sub, DI.Ev.negD_int, DI.Ev.cmp_lt, DI.Ev.cmp_le, DI.Ev.cmp_gt, DI.Ev.cmp_ge, DI.Ev.cmp_eqI, DI.Ev.cmp_neI, DI.Ev.cmp_eqB, DI.Ev.cmp_neB, DI.Ev.cmp_eqT, splD, List.length_cons, List.length_nil, Nat.reduceAdd, Nat.reduceSub, Nat.reduceLeDiff, Nat.reduceLT, Nat.le_refl, List.cons_append, List.nil_append, List.append_nil, List.map_cons, List.map_nil, List.replicate, List.getElem?_cons_zero, List.getElem?_cons_succ, List.getElem?_nil, List.set_cons_zero, List.set_cons_succ, if_true, if_false, ite_true, ite_false, and_self, and_true, true_and, reduceCtorEq, Bool.not_true, Bool.not_false, decide_true, decide_false, maxLen]
end K56
end

section
set_option linter.all false
set_option exponentiation.threshold 100000
set_option maxRecDepth 100000
set_option maxHeartbeats 1000000
namespace K56
open PySem L2 DI
open PyProof.Rows hiding St
open DI.Ev
variable {c d : Int} {y : D} {m : MS}
theorem ratio_ok {q : Q} {k : Nat} (h : OkQ k q) (hk : k ≤ 2000) : m__law_ratio [prq q] m = .ok (raq q) m := by
  have f1 : g__law_ratio.fn = [m_Ratio2] := rfl
  have e : ∀ m, m_Ratio2 [.int q.1, .int q.2] m = .ok (raq q) m := fun m => by
    have := Ratio2_ok (a := q.1) h.nf.ne (h.b2.sm hk) m
    rw [h.nf.nt, h.nf.nb] at this
    exact this
  unfold m__law_ratio ir__law_ratio
  unfold prq
  simp only [DI.Ev.ss_nil, DI.Ev.ss_cons, DI.Ev.st_try, DI.Ev.ee_0, DI.Ev.ee_1, DI.Ev.ee_2, DI.Ev.ee_3, DI.Ev.ee_4, DI.Ev.ee_5, DI.Ev.ee_6, DI.Ev.ee_7, DI.Ev.ee_8, DI.Ev.ee_9, DI.Ev.ee_10, DI.Ev.ee_11, DI.Ev.ee_12, DI.Ev.ee_13, DI.Ev.ee_14, DI.Ev.ee_15, DI.Ev.ee_16, DI.Ev.ee_17, DI.Ev.ee_18, DI.Ev.ee_19, DI.Ev.ee_20, DI.Ev.ee_21, DI.Ev.ee_22, DI.Ev.ee_23, DI.Ev.ee_24, DI.Ev.ee_25, DI.Ev.ee_26, DI.Ev.ee_27, DI.Ev.ee_28, DI.Ev.ee_29, DI.Ev.ee_30, DI.Ev.es_0, DI.Ev.es_1, DI.Ev.eo_0, DI.Ev.eo_1, DI.Ev.ec_0, DI.Ev.ec_1, DI.Ev.ei_0, DI.Ev.ei_1, DI.Ev.ei_2, DI.Ev.ei_3, DI.Ev.ei_4, DI.Ev.ei_5, DI.Ev.ei_6, DI.Ev.st_0, DI.Ev.st_1, DI.Ev.st_2, DI.Ev.st_3, DI.Ev.st_4, DI.Ev.st_5, DI.Ev.st_6, DI.Ev.st_7, DI.Ev.st_8, DI.Ev.st_9, DI.Ev.st_10, DI.Ev.st_11, DI.Ev.st_12, DI.Ev.st_13, DI.Ev.st_14, DI.Ev.st_17, DI.Ev.st_18, DI.Ev.st_19, DI.Ev.st_20, evH, DI.Ev.compX_nil, DI.Ev.compX_cons, DI.Ev.noX_ok, ↓reduceIte, DI.T.slots, DI.T.slotss, DI.wipeS, DI.Ev.bind_ok, DI.Ev.bind_exc, DI.Ev.out_ok, DI.Ev.out_exc, DI.Ev.seq_nx, DI.Ev.seq_ret, DI.Ev.seq_exc, DI.Ev.seq_brk, DI.Ev.seq_ct, DI.Ev.rnd_nx, DI.Ev.rnd_ct, DI.Ev.rnd_brk, DI.Ev.rnd_ret, DI.Ev.rnd_exc, DI.Ev.tr_nx, DI.Ev.tr_ret, DI.Ev.tr_exc, DI.Ev.fin_ret, DI.Ev.fin_nx, DI.Ev.fin_exc, DI.Ev.st_for, DI.Ev.forF_eq, DI.Ev.e_lcomp, DI.Ev.e_dcomp, DI.Ev.compF_eq, DI.Ev.compG_eq, DI.Ev.forX_cons, DI.Ev.forX_nil, DI.Ev.evF_eq, DI.Ev.nxO_some, DI.Ev.asg_var, DI.Ev.asg_tup, DI.Ev.asg_lst, DI.Ev.asgs_nil, DI.Ev.asgs_cons, DI.Ev.obind, DI.Ev.lift_some, DI.Ev.call_some, DI.Ev.bin_add, DI.Ev.bin_sub, DI.Ev.negD_int, DI.Ev.cmp_lt, DI.Ev.cmp_le, DI.Ev.cmp_gt, DI.Ev.cmp_ge, DI.Ev.cmp_eqI, DI.Ev.cmp_neI, DI.Ev.cmp_eqB, DI.Ev.cmp_neB, DI.Ev.cmp_eqT, splD, List.length_cons, List.length_nil, Nat.reduceAdd, Nat.reduceSub, Nat.reduceLeDiff, Nat.reduceLT, Nat.le_refl, List.cons_append, List.nil_append, List.append_nil, List.map_cons, List.map_nil, List.replicate, List.getElem?_cons_zero, List.getElem?_cons_succ, List.getElem?_nil, List.set_cons_zero, List.set_cons_succ, if_true, if_false, ite_true, ite_false, and_self, and_true, true_and, reduceCtorEq, Bool.not_true, Bool.not_false, decide_true, decide_false, maxLen, f1, idx_tup, atI_0, atI_1, e]
theorem law_rule_ok {L : List Step} (h : OkS L) : m__law_rule [.lst (L.map lst40)] m = .ok (rul (few [] L)) m := by
  have f1 : g__law_rule.fn = [m_Rule1, m__law_ratio] := rfl
  have hl : (L.map lst40).length ≤ 100000 := by rw [List.length_map]; have := h.len; omega
  unfold m__law_rule ir__law_rule
  simp only [DI.Ev.ss_nil, DI.Ev.ss_cons, DI.Ev.st_try, DI.Ev.ee_0, DI.Ev.ee_1, DI.Ev.ee_2, DI.Ev.ee_3, DI.Ev.ee_4, DI.Ev.ee_5, DI.Ev.ee_6, DI.Ev.ee_7, DI.Ev.ee_8, DI.Ev.ee_9, DI.Ev.ee_10, DI.Ev.ee_11, DI.Ev.ee_12, DI.Ev.ee_13, DI.Ev.ee_14, DI.Ev.ee_15, DI.Ev.ee_16, DI.Ev.ee_17, DI.Ev.ee_18, DI.Ev.ee_19, DI.Ev.ee_20, DI.Ev.ee_21, DI.Ev.ee_22, DI.Ev.ee_23, DI.Ev.ee_24, DI.Ev.ee_25, DI.Ev.ee_26, DI.Ev.ee_27, DI.Ev.ee_28, DI.Ev.ee_29, DI.Ev.ee_30, DI.Ev.es_0, DI.Ev.es_1, DI.Ev.eo_0, DI.Ev.eo_1, DI.Ev.ec_0, DI.Ev.ec_1, DI.Ev.ei_0, DI.Ev.ei_1, DI.Ev.ei_2, DI.Ev.ei_3, DI.Ev.ei_4, DI.Ev.ei_5, DI.Ev.ei_6, DI.Ev.st_0, DI.Ev.st_1, DI.Ev.st_2, DI.Ev.st_3, DI.Ev.st_4, DI.Ev.st_5, DI.Ev.st_6, DI.Ev.st_7, DI.Ev.st_8, DI.Ev.st_9, DI.Ev.st_10, DI.Ev.st_11, DI.Ev.st_12, DI.Ev.st_13, DI.Ev.st_14, DI.Ev.st_17, DI.Ev.st_18, DI.Ev.st_19, DI.Ev.st_20, evH, DI.Ev.compX_nil, DI.Ev.compX_cons, DI.Ev.noX_ok, ↓reduceIte, DI.T.slots, DI.T.slotss, DI.wipeS, DI.Ev.bind_ok, DI.Ev.bind_exc, DI.Ev.out_ok, DI.Ev.out_exc, DI.Ev.seq_nx, DI.Ev.seq_ret, DI.Ev.seq_exc, DI.Ev.seq_brk, DI.Ev.seq_ct, DI.Ev.rnd_nx, DI.Ev.rnd_ct, DI.Ev.rnd_brk, DI.Ev.rnd_ret, DI.Ev.rnd_exc, DI.Ev.tr_nx, DI.Ev.tr_ret, DI.Ev.tr_exc, DI.Ev.fin_ret, DI.Ev.fin_nx, DI.Ev.fin_exc, DI.Ev.st_for, DI.Ev.forF_eq, DI.Ev.e_lcomp, DI.Ev.e_dcomp, DI.Ev.compF_eq, DI.Ev.compG_eq, DI.Ev.forX_cons, DI.Ev.forX_nil, DI.Ev.evF_eq, DI.Ev.nxO_some, DI.Ev.asg_var, DI.Ev.asg_tup, DI.Ev.asg_lst, DI.Ev.asgs_nil, DI.Ev.asgs_cons, DI.Ev.obind, DI.Ev.lift_some, DI.Ev.call_some, DI.Ev.bin_add, DI.Ev.bin_sub, DI.Ev.negD_int, DI.Ev.cmp_lt, DI.Ev.cmp_le, DI.Ev.cmp_gt, DI.Ev.cmp_ge, DI.Ev.cmp_eqI, DI.Ev.cmp_neI, DI.Ev.cmp_eqB, DI.Ev.cmp_neB, DI.Ev.cmp_eqT, splD, List.length_cons, List.length_nil, Nat.reduceAdd, Nat.reduceSub, Nat.reduceLeDiff, Nat.reduceLT, Nat.le_refl, List.cons_append, List.nil_append, List.append_nil, List.map_cons, List.map_nil, List.replicate, List.getElem?_cons_zero, List.getElem?_cons_succ, List.getElem?_nil, List.set_cons_zero, List.set_cons_succ, if_true, if_false, ite_true, ite_false, and_self, and_true, true_and, reduceCtorEq, Bool.not_true, Bool.not_false, decide_true, decide_false, maxLen, it_lst, hl]
  rw [comp_all (fun p => pst40 p) (fun p hp => by
    have e1 : ∀ m, m__law_ratio [prq (uq p.1)] m = .ok (raq (uq p.1)) m := fun m => ratio_ok (uq_ok (h.rng p hp)) (by decide)
    have e2 : ∀ m, m__law_ratio [prq p.2] m = .ok (raq p.2) m := fun m => ratio_ok (h.rate p hp).1 (by decide)
    unfold lst40 pst40
    simp only [DI.Ev.ss_nil, DI.Ev.ss_cons, DI.Ev.st_try, DI.Ev.ee_0, DI.Ev.ee_1, DI.Ev.ee_2, DI.Ev.ee_3, DI.Ev.ee_4, DI.Ev.ee_5, DI.Ev.ee_6, DI.Ev.ee_7, DI.Ev.ee_8, DI.Ev.ee_9, DI.Ev.ee_10, DI.Ev.ee_11, DI.Ev.ee_12, DI.Ev.ee_13, DI.Ev.ee_14, DI.Ev.ee_15, DI.Ev.ee_16, DI.Ev.ee_17, DI.Ev.ee_18, DI.Ev.ee_19, DI.Ev.ee_20, DI.Ev.ee_21, DI.Ev.ee_22, DI.Ev.ee_23, DI.Ev.ee_24, DI.Ev.ee_25, DI.Ev.ee_26, DI.Ev.ee_27, DI.Ev.ee_28, DI.Ev.ee_29, DI.Ev.ee_30, DI.Ev.es_0, DI.Ev.es_1, DI.Ev.eo_0, DI.Ev.eo_1, DI.Ev.ec_0, DI.Ev.ec_1, DI.Ev.ei_0, DI.Ev.ei_1, DI.Ev.ei_2, DI.Ev.ei_3, DI.Ev.ei_4, DI.Ev.ei_5, DI.Ev.ei_6, DI.Ev.st_0, DI.Ev.st_1, DI.Ev.st_2, DI.Ev.st_3, DI.Ev.st_4, DI.Ev.st_5, DI.Ev.st_6, DI.Ev.st_7, DI.Ev.st_8, DI.Ev.st_9, DI.Ev.st_10, DI.Ev.st_11, DI.Ev.st_12, DI.Ev.st_13, DI.Ev.st_14, DI.Ev.st_17, DI.Ev.st_18, DI.Ev.st_19, DI.Ev.st_20, evH, DI.Ev.compX_nil, DI.Ev.compX_cons, DI.Ev.noX_ok, ↓reduceIte, DI.T.slots, DI.T.slotss, DI.wipeS, DI.Ev.bind_ok, DI.Ev.bind_exc, DI.Ev.out_ok, DI.Ev.out_exc, DI.Ev.seq_nx, DI.Ev.seq_ret, DI.Ev.seq_exc, DI.Ev.seq_brk, DI.Ev.seq_ct, DI.Ev.rnd_nx, DI.Ev.rnd_ct, DI.Ev.rnd_brk, DI.Ev.rnd_ret, DI.Ev.rnd_exc, DI.Ev.tr_nx, DI.Ev.tr_ret, DI.Ev.tr_exc, DI.Ev.fin_ret, DI.Ev.fin_nx, DI.Ev.fin_exc, DI.Ev.st_for, DI.Ev.forF_eq, DI.Ev.e_lcomp, DI.Ev.e_dcomp, DI.Ev.compF_eq, DI.Ev.compG_eq, DI.Ev.forX_cons, DI.Ev.forX_nil, DI.Ev.evF_eq, DI.Ev.nxO_some, DI.Ev.asg_var, DI.Ev.asg_tup, DI.Ev.asg_lst, DI.Ev.asgs_nil, DI.Ev.asgs_cons, DI.Ev.obind, DI.Ev.lift_some, DI.Ev.call_some, DI.Ev.bin_add, DI.Ev.bin_sub, DI.Ev.negD_int, DI.Ev.cmp_lt, DI.Ev.cmp_le, DI.Ev.cmp_gt, DI.Ev.cmp_ge, DI.Ev.cmp_eqI, DI.Ev.cmp_neI, DI.Ev.cmp_eqB, DI.Ev.cmp_neB, DI.Ev.cmp_eqT, splD, List.length_cons, List.length_nil, Nat.reduceAdd, Nat.reduceSub, Nat.reduceLeDiff, Nat.reduceLT, Nat.le_refl, List.cons_append, List.nil_append, List.append_nil, List.map_cons, List.map_nil, List.replicate, List.getElem?_cons_zero, List.getElem?_cons_succ, List.getElem?_nil, List.set_cons_zero, List.set_cons_succ, if_true, if_false, ite_true, ite_false, and_self, and_true, true_and, reduceCtorEq, Bool.not_true, Bool.not_false, decide_true, decide_false, maxLen, f1, e1, e2])]
  simp only [DI.Ev.ss_nil, DI.Ev.ss_cons, DI.Ev.st_try, DI.Ev.ee_0, DI.Ev.ee_1, DI.Ev.ee_2, DI.Ev.ee_3, DI.Ev.ee_4, DI.Ev.ee_5, DI.Ev.ee_6, DI.Ev.ee_7, DI.Ev.ee_8, DI.Ev.ee_9, DI.Ev.ee_10, DI.Ev.ee_11, DI.Ev.ee_12, DI.Ev.ee_13, DI.Ev.ee_14, DI.Ev.ee_15, DI.Ev.ee_16, DI.Ev.ee_17, DI.Ev.ee_18, DI.Ev.ee_19, DI.Ev.ee_20, DI.Ev.ee_21, DI.Ev.ee_22, DI.Ev.ee_23, DI.Ev.ee_24, DI.Ev.ee_25, DI.Ev.ee_26, DI.Ev.ee_27, DI.Ev.ee_28, DI.Ev.ee_29, DI.Ev.ee_30, DI.Ev.es_0, DI.Ev.es_1, DI.Ev.eo_0, DI.Ev.eo_1, DI.Ev.ec_0, DI.Ev.ec_1, DI.Ev.ei_0, DI.Ev.ei_1, DI.Ev.ei_2, DI.Ev.ei_3, DI.Ev.ei_4, DI.Ev.ei_5, DI.Ev.ei_6, DI.Ev.st_0, DI.Ev.st_1, DI.Ev.st_2, DI.Ev.st_3, DI.Ev.st_4, DI.Ev.st_5, DI.Ev.st_6, DI.Ev.st_7, DI.Ev.st_8, DI.Ev.st_9, DI.Ev.st_10, DI.Ev.st_11, DI.Ev.st_12, DI.Ev.st_13, DI.Ev.st_14, DI.Ev.st_17, DI.Ev.st_18, DI.Ev.st_19, DI.Ev.st_20, evH, DI.Ev.compX_nil, DI.Ev.compX_cons, DI.Ev.noX_ok, ↓reduceIte, DI.T.slots, DI.T.slotss, DI.wipeS, DI.Ev.bind_ok, DI.Ev.bind_exc, DI.Ev.out_ok, DI.Ev.out_exc, DI.Ev.seq_nx, DI.Ev.seq_ret, DI.Ev.seq_exc, DI.Ev.seq_brk, DI.Ev.seq_ct, DI.Ev.rnd_nx, DI.Ev.rnd_ct, DI.Ev.rnd_brk, DI.Ev.rnd_ret, DI.Ev.rnd_exc, DI.Ev.tr_nx, DI.Ev.tr_ret, DI.Ev.tr_exc, DI.Ev.fin_ret, DI.Ev.fin_nx, DI.Ev.fin_exc, DI.Ev.st_for, DI.Ev.forF_eq, DI.Ev.e_lcomp, DI.Ev.e_dcomp, DI.Ev.compF_eq, DI.Ev.compG_eq, DI.Ev.forX_cons, DI.Ev.forX_nil, DI.Ev.evF_eq, DI.Ev.nxO_some, DI.Ev.asg_var, DI.Ev.asg_tup, DI.Ev.asg_lst, DI.Ev.asgs_nil, DI.Ev.asgs_cons, DI.Ev.obind, DI.Ev.lift_some, DI.Ev.call_some, DI.Ev.bin_add, DI.Ev.bin_sub, DI.Ev.negD_int, DI.Ev.cmp_lt, DI.Ev.cmp_le, DI.Ev.cmp_gt, DI.Ev.cmp_ge, DI.Ev.cmp_eqI, DI.Ev.cmp_neI, DI.Ev.cmp_eqB, DI.Ev.cmp_neB, DI.Ev.cmp_eqT, splD, List.length_cons, List.length_nil, Nat.reduceAdd, Nat.reduceSub, Nat.reduceLeDiff, Nat.reduceLT, Nat.le_refl, List.cons_append, List.nil_append, List.append_nil, List.map_cons, List.map_nil, List.replicate, List.getElem?_cons_zero, List.getElem?_cons_succ, List.getElem?_nil, List.set_cons_zero, List.set_cons_succ, if_true, if_false, ite_true, ite_false, and_self, and_true, true_and, reduceCtorEq, Bool.not_true, Bool.not_false, decide_true, decide_false, maxLen, f1, Rule_ok h]
theorem law_rate_ok {L : List Step} (h : OkS L) {j : Int} (hj : 0 ≤ j ∧ j ≤ 40) {q : Q} (hq : rateAt L j = some q) : m__law_rate [.lst (L.map lst40), prq (uq j)] m = .ok (prq q) m := by
  have f1 : g__law_rate.fn = [m__law_less] := rfl
  have hu := uq_ok hj
  have hl : (L.map lst40).length ≤ 100000 := by rw [List.length_map]; have := h.len; omega
  unfold m__law_rate ir__law_rate
  simp only [DI.Ev.ss_nil, DI.Ev.ss_cons, DI.Ev.st_try, DI.Ev.ee_0, DI.Ev.ee_1, DI.Ev.ee_2, DI.Ev.ee_3, DI.Ev.ee_4, DI.Ev.ee_5, DI.Ev.ee_6, DI.Ev.ee_7, DI.Ev.ee_8, DI.Ev.ee_9, DI.Ev.ee_10, DI.Ev.ee_11, DI.Ev.ee_12, DI.Ev.ee_13, DI.Ev.ee_14, DI.Ev.ee_15, DI.Ev.ee_16, DI.Ev.ee_17, DI.Ev.ee_18, DI.Ev.ee_19, DI.Ev.ee_20, DI.Ev.ee_21, DI.Ev.ee_22, DI.Ev.ee_23, DI.Ev.ee_24, DI.Ev.ee_25, DI.Ev.ee_26, DI.Ev.ee_27, DI.Ev.ee_28, DI.Ev.ee_29, DI.Ev.ee_30, DI.Ev.es_0, DI.Ev.es_1, DI.Ev.eo_0, DI.Ev.eo_1, DI.Ev.ec_0, DI.Ev.ec_1, DI.Ev.ei_0, DI.Ev.ei_1, DI.Ev.ei_2, DI.Ev.ei_3, DI.Ev.ei_4, DI.Ev.ei_5, DI.Ev.ei_6, DI.Ev.st_0, DI.Ev.st_1, DI.Ev.st_2, DI.Ev.st_3, DI.Ev.st_4, DI.Ev.st_5, DI.Ev.st_6, DI.Ev.st_7, DI.Ev.st_8, DI.Ev.st_9, DI.Ev.st_10, DI.Ev.st_11, DI.Ev.st_12, DI.Ev.st_13, DI.Ev.st_14, DI.Ev.st_17, DI.Ev.st_18, DI.Ev.st_19, DI.Ev.st_20, evH, DI.Ev.compX_nil, DI.Ev.compX_cons, DI.Ev.noX_ok, ↓reduceIte, DI.T.slots, DI.T.slotss, DI.wipeS, DI.Ev.bind_ok, DI.Ev.bind_exc, DI.Ev.out_ok, DI.Ev.out_exc, DI.Ev.seq_nx, DI.Ev.seq_ret, DI.Ev.seq_exc, DI.Ev.seq_brk, DI.Ev.seq_ct, DI.Ev.rnd_nx, DI.Ev.rnd_ct, DI.Ev.rnd_brk, DI.Ev.rnd_ret, DI.Ev.rnd_exc, DI.Ev.tr_nx, DI.Ev.tr_ret, DI.Ev.tr_exc, DI.Ev.fin_ret, DI.Ev.fin_nx, DI.Ev.fin_exc, DI.Ev.st_for, DI.Ev.forF_eq, DI.Ev.e_lcomp, DI.Ev.e_dcomp, DI.Ev.compF_eq, DI.Ev.compG_eq, DI.Ev.forX_cons, DI.Ev.forX_nil, DI.Ev.evF_eq, DI.Ev.nxO_some, DI.Ev.asg_var, DI.Ev.asg_tup, DI.Ev.asg_lst, DI.Ev.asgs_nil, DI.Ev.asgs_cons, DI.Ev.obind, DI.Ev.lift_some, DI.Ev.call_some, DI.Ev.bin_add, DI.Ev.bin_sub, DI.Ev.negD_int, DI.Ev.cmp_lt, DI.Ev.cmp_le, DI.Ev.cmp_gt, DI.Ev.cmp_ge, DI.Ev.cmp_eqI, DI.Ev.cmp_neI, DI.Ev.cmp_eqB, DI.Ev.cmp_neB, DI.Ev.cmp_eqT, splD, List.length_cons, List.length_nil, Nat.reduceAdd, Nat.reduceSub, Nat.reduceLeDiff, Nat.reduceLT, Nat.le_refl, List.cons_append, List.nil_append, List.append_nil, List.map_cons, List.map_nil, List.replicate, List.getElem?_cons_zero, List.getElem?_cons_succ, List.getElem?_nil, List.set_cons_zero, List.set_cons_succ, if_true, if_false, ite_true, ite_false, and_self, and_true, true_and, reduceCtorEq, Bool.not_true, Bool.not_false, decide_true, decide_false, maxLen, it_lst, hl]
  rw [comp_enc (fun p => decide (p.1 ≤ j)) (fun p => prq p.2) (fun p hp => by
    have hv := uq_ok (h.rng p hp)
    have c1 : ∀ m, m__law_less [prq (uq j), prq (uq p.1)] m = .ok (.bl (decide (j < p.1))) m := fun m => by
      have := less_ok (m := m) (hu.b1.sm (by decide)) (hu.b2.sm (by decide)) (hv.b1.sm (by decide)) (hv.b2.sm (by decide))
      rw [decide_eq_decide.mpr (uq_lt j p.1)] at this
      exact this
    unfold lst40
    by_cases z : p.1 ≤ j
    · have z2 : ¬ j < p.1 := by omega
      simp only [DI.Ev.ss_nil, DI.Ev.ss_cons, DI.Ev.st_try, DI.Ev.ee_0, DI.Ev.ee_1, DI.Ev.ee_2, DI.Ev.ee_3, DI.Ev.ee_4, DI.Ev.ee_5, DI.Ev.ee_6, DI.Ev.ee_7, DI.Ev.ee_8, DI.Ev.ee_9, DI.Ev.ee_10, DI.Ev.ee_11, DI.Ev.ee_12, DI.Ev.ee_13, DI.Ev.ee_14, DI.Ev.ee_15, DI.Ev.ee_16, DI.Ev.ee_17, DI.Ev.ee_18, DI.Ev.ee_19, DI.Ev.ee_20, DI.Ev.ee_21, DI.Ev.ee_22, DI.Ev.ee_23, DI.Ev.ee_24, DI.Ev.ee_25, DI.Ev.ee_26, DI.Ev.ee_27, DI.Ev.ee_28, DI.Ev.ee_29, DI.Ev.ee_30, DI.Ev.es_0, DI.Ev.es_1, DI.Ev.eo_0, DI.Ev.eo_1, DI.Ev.ec_0, DI.Ev.ec_1, DI.Ev.ei_0, DI.Ev.ei_1, DI.Ev.ei_2, DI.Ev.ei_3, DI.Ev.ei_4, DI.Ev.ei_5, DI.Ev.ei_6, DI.Ev.st_0, DI.Ev.st_1, DI.Ev.st_2, DI.Ev.st_3, DI.Ev.st_4, DI.Ev.st_5, DI.Ev.st_6, DI.Ev.st_7, DI.Ev.st_8, DI.Ev.st_9, DI.Ev.st_10, DI.Ev.st_11, DI.Ev.st_12, DI.Ev.st_13, DI.Ev.st_14, DI.Ev.st_17, DI.Ev.st_18, DI.Ev.st_19, DI.Ev.st_20, evH, DI.Ev.compX_nil, DI.Ev.compX_cons, DI.Ev.noX_ok, ↓reduceIte, DI.T.slots, DI.T.slotss, DI.wipeS, DI.Ev.bind_ok, DI.Ev.bind_exc, DI.Ev.out_ok, DI.Ev.out_exc, DI.Ev.seq_nx, DI.Ev.seq_ret, DI.Ev.seq_exc, DI.Ev.seq_brk, DI.Ev.seq_ct, DI.Ev.rnd_nx, DI.Ev.rnd_ct, DI.Ev.rnd_brk, DI.Ev.rnd_ret, DI.Ev.rnd_exc, DI.Ev.tr_nx, DI.Ev.tr_ret, DI.Ev.tr_exc, DI.Ev.fin_ret, DI.Ev.fin_nx, DI.Ev.fin_exc, DI.Ev.st_for, DI.Ev.forF_eq, DI.Ev.e_lcomp, DI.Ev.e_dcomp, DI.Ev.compF_eq, DI.Ev.compG_eq, DI.Ev.forX_cons, DI.Ev.forX_nil, DI.Ev.evF_eq, DI.Ev.nxO_some, DI.Ev.asg_var, DI.Ev.asg_tup, DI.Ev.asg_lst, DI.Ev.asgs_nil, DI.Ev.asgs_cons, DI.Ev.obind, DI.Ev.lift_some, DI.Ev.call_some, DI.Ev.bin_add, DI.Ev.bin_sub, DI.Ev.negD_int, DI.Ev.cmp_lt, DI.Ev.cmp_le, DI.Ev.cmp_gt, DI.Ev.cmp_ge, DI.Ev.cmp_eqI, DI.Ev.cmp_neI, DI.Ev.cmp_eqB, DI.Ev.cmp_neB, DI.Ev.cmp_eqT, splD, List.length_cons, List.length_nil, Nat.reduceAdd, Nat.reduceSub, Nat.reduceLeDiff, Nat.reduceLT, Nat.le_refl, List.cons_append, List.nil_append, List.append_nil, List.map_cons, List.map_nil, List.replicate, List.getElem?_cons_zero, List.getElem?_cons_succ, List.getElem?_nil, List.set_cons_zero, List.set_cons_succ, if_true, if_false, ite_true, ite_false, and_self, and_true, true_and, reduceCtorEq, Bool.not_true, Bool.not_false, decide_true, decide_false, maxLen, f1, c1, z, z2]
    · have z2 : j < p.1 := by omega
      simp only [DI.Ev.ss_nil, DI.Ev.ss_cons, DI.Ev.st_try, DI.Ev.ee_0, DI.Ev.ee_1, DI.Ev.ee_2, DI.Ev.ee_3, DI.Ev.ee_4, DI.Ev.ee_5, DI.Ev.ee_6, DI.Ev.ee_7, DI.Ev.ee_8, DI.Ev.ee_9, DI.Ev.ee_10, DI.Ev.ee_11, DI.Ev.ee_12, DI.Ev.ee_13, DI.Ev.ee_14, DI.Ev.ee_15, DI.Ev.ee_16, DI.Ev.ee_17, DI.Ev.ee_18, DI.Ev.ee_19, DI.Ev.ee_20, DI.Ev.ee_21, DI.Ev.ee_22, DI.Ev.ee_23, DI.Ev.ee_24, DI.Ev.ee_25, DI.Ev.ee_26, DI.Ev.ee_27, DI.Ev.ee_28, DI.Ev.ee_29, DI.Ev.ee_30, DI.Ev.es_0, DI.Ev.es_1, DI.Ev.eo_0, DI.Ev.eo_1, DI.Ev.ec_0, DI.Ev.ec_1, DI.Ev.ei_0, DI.Ev.ei_1, DI.Ev.ei_2, DI.Ev.ei_3, DI.Ev.ei_4, DI.Ev.ei_5, DI.Ev.ei_6, DI.Ev.st_0, DI.Ev.st_1, DI.Ev.st_2, DI.Ev.st_3, DI.Ev.st_4, DI.Ev.st_5, DI.Ev.st_6, DI.Ev.st_7, DI.Ev.st_8, DI.Ev.st_9, DI.Ev.st_10, DI.Ev.st_11, DI.Ev.st_12, DI.Ev.st_13, DI.Ev.st_14, DI.Ev.st_17, DI.Ev.st_18, DI.Ev.st_19, DI.Ev.st_20, evH, DI.Ev.compX_nil, DI.Ev.compX_cons, DI.Ev.noX_ok, ↓reduceIte, DI.T.slots, DI.T.slotss, DI.wipeS, DI.Ev.bind_ok, DI.Ev.bind_exc, DI.Ev.out_ok, DI.Ev.out_exc, DI.Ev.seq_nx, DI.Ev.seq_ret, DI.Ev.seq_exc, DI.Ev.seq_brk, DI.Ev.seq_ct, DI.Ev.rnd_nx, DI.Ev.rnd_ct, DI.Ev.rnd_brk, DI.Ev.rnd_ret, DI.Ev.rnd_exc, DI.Ev.tr_nx, DI.Ev.tr_ret, DI.Ev.tr_exc, DI.Ev.fin_ret, DI.Ev.fin_nx, DI.Ev.fin_exc, DI.Ev.st_for, DI.Ev.forF_eq, DI.Ev.e_lcomp, DI.Ev.e_dcomp, DI.Ev.compF_eq, DI.Ev.compG_eq, DI.Ev.forX_cons, DI.Ev.forX_nil, DI.Ev.evF_eq, DI.Ev.nxO_some, DI.Ev.asg_var, DI.Ev.asg_tup, DI.Ev.asg_lst, DI.Ev.asgs_nil, DI.Ev.asgs_cons, DI.Ev.obind, DI.Ev.lift_some, DI.Ev.call_some, DI.Ev.bin_add, DI.Ev.bin_sub, DI.Ev.negD_int, DI.Ev.cmp_lt, DI.Ev.cmp_le, DI.Ev.cmp_gt, DI.Ev.cmp_ge, DI.Ev.cmp_eqI, DI.Ev.cmp_neI, DI.Ev.cmp_eqB, DI.Ev.cmp_neB, DI.Ev.cmp_eqT, splD, List.length_cons, List.length_nil, Nat.reduceAdd, Nat.reduceSub, Nat.reduceLeDiff, Nat.reduceLT, Nat.le_refl, List.cons_append, List.nil_append, List.append_nil, List.map_cons, List.map_nil, List.replicate, List.getElem?_cons_zero, List.getElem?_cons_succ, List.getElem?_nil, List.set_cons_zero, List.set_cons_succ, if_true, if_false, ite_true, ite_false, and_self, and_true, true_and, reduceCtorEq, Bool.not_true, Bool.not_false, decide_true, decide_false, maxLen, f1, c1, z, z2])]
  have g1 : ((L.filter fun p => decide (p.1 ≤ j)).map fun p => prq p.2).getLast? = some (prq q) := by
    unfold rateAt at hq
    rw [show (fun p : Step => prq p.2) = prq ∘ (·.2) from rfl, ← List.map_map, List.getLast?_map, hq]
    rfl
  simp only [DI.Ev.ss_nil, DI.Ev.ss_cons, DI.Ev.st_try, DI.Ev.ee_0, DI.Ev.ee_1, DI.Ev.ee_2, DI.Ev.ee_3, DI.Ev.ee_4, DI.Ev.ee_5, DI.Ev.ee_6, DI.Ev.ee_7, DI.Ev.ee_8, DI.Ev.ee_9, DI.Ev.ee_10, DI.Ev.ee_11, DI.Ev.ee_12, DI.Ev.ee_13, DI.Ev.ee_14, DI.Ev.ee_15, DI.Ev.ee_16, DI.Ev.ee_17, DI.Ev.ee_18, DI.Ev.ee_19, DI.Ev.ee_20, DI.Ev.ee_21, DI.Ev.ee_22, DI.Ev.ee_23, DI.Ev.ee_24, DI.Ev.ee_25, DI.Ev.ee_26, DI.Ev.ee_27, DI.Ev.ee_28, DI.Ev.ee_29, DI.Ev.ee_30, DI.Ev.es_0, DI.Ev.es_1, DI.Ev.eo_0, DI.Ev.eo_1, DI.Ev.ec_0, DI.Ev.ec_1, DI.Ev.ei_0, DI.Ev.ei_1, DI.Ev.ei_2, DI.Ev.ei_3, DI.Ev.ei_4, DI.Ev.ei_5, DI.Ev.ei_6, DI.Ev.st_0, DI.Ev.st_1, DI.Ev.st_2, DI.Ev.st_3, DI.Ev.st_4, DI.Ev.st_5, DI.Ev.st_6, DI.Ev.st_7, DI.Ev.st_8, DI.Ev.st_9, DI.Ev.st_10, DI.Ev.st_11, DI.Ev.st_12, DI.Ev.st_13, DI.Ev.st_14, DI.Ev.st_17, DI.Ev.st_18, DI.Ev.st_19, DI.Ev.st_20, evH, DI.Ev.compX_nil, DI.Ev.compX_cons, DI.Ev.noX_ok, ↓reduceIte, DI.T.slots, DI.T.slotss, DI.wipeS, DI.Ev.bind_ok, DI.Ev.bind_exc, DI.Ev.out_ok, DI.Ev.out_exc, DI.Ev.seq_nx, DI.Ev.seq_ret, DI.Ev.seq_exc, DI.Ev.seq_brk, DI.Ev.seq_ct, DI.Ev.rnd_nx, DI.Ev.rnd_ct, DI.Ev.rnd_brk, DI.Ev.rnd_ret, DI.Ev.rnd_exc, DI.Ev.tr_nx, DI.Ev.tr_ret, DI.Ev.tr_exc, DI.Ev.fin_ret, DI.Ev.fin_nx, DI.Ev.fin_exc, DI.Ev.st_for, DI.Ev.forF_eq, DI.Ev.e_lcomp, DI.Ev.e_dcomp, DI.Ev.compF_eq, DI.Ev.compG_eq, DI.Ev.forX_cons, DI.Ev.forX_nil, DI.Ev.evF_eq, DI.Ev.nxO_some, DI.Ev.asg_var, DI.Ev.asg_tup, DI.Ev.asg_lst, DI.Ev.asgs_nil, DI.Ev.asgs_cons, DI.Ev.obind, DI.Ev.lift_some, DI.Ev.call_some, DI.Ev.bin_add, DI.Ev.bin_sub, DI.Ev.negD_int, DI.Ev.cmp_lt, DI.Ev.cmp_le, DI.Ev.cmp_gt, DI.Ev.cmp_ge, DI.Ev.cmp_eqI, DI.Ev.cmp_neI, DI.Ev.cmp_eqB, DI.Ev.cmp_neB, DI.Ev.cmp_eqT, splD, List.length_cons, List.length_nil, Nat.reduceAdd, Nat.reduceSub, Nat.reduceLeDiff, Nat.reduceLT, Nat.le_refl, List.cons_append, List.nil_append, List.append_nil, List.map_cons, List.map_nil, List.replicate, List.getElem?_cons_zero, List.getElem?_cons_succ, List.getElem?_nil, List.set_cons_zero, List.set_cons_succ, if_true, if_false, ite_true, ite_false, and_self, and_true, true_and, reduceCtorEq, Bool.not_true, Bool.not_false, decide_true, decide_false, maxLen, idx_lst, atI_last, g1]
theorem law_use_ok {i : Nat} {w c q : Int} (b : Bx m i w c q) (hc : c ≤ 900) {L : List Step} (h : OkS L) : ∃ j m' w' c', m__law_use [.ref i, .lst (L.map lst40)] m = .ok (prq (uq j)) m' ∧ (0 ≤ j ∧ j ≤ 40) ∧ Bx m' i w' c' q ∧ c' ≤ c + 2 := by
  have f1 : g__law_use.fn = [m__law_take, m__law_frac] := rfl
  obtain ⟨d1, m1, w1, c1, t1, p1, p1', b1, k1⟩ := take_ok b (by omega) (k := 2) (by decide) (sm_of (by decide))
  by_cases z : d1 = 0
  · subst z
    have hn : 0 < L.length := by obtain ⟨q, T, rfl⟩ := h.head; simp
    have hn2 := h.len
    obtain ⟨d2, m2, w2, c2, t2, p2, p2', b2, k2⟩ := take_ok b1 (by omega) (k := ((L.map lst40).length : Int)) (by rw [List.length_map]; omega) (sm_of (by rw [List.length_map]; omega))
    obtain ⟨x, hx, ex⟩ := atI_mem (xs := L.map lst40) p2 p2'
    obtain ⟨p, hp, rfl⟩ := List.mem_map.mp hx
    refine ⟨p.1, m2, w2, c2, ?_, h.rng p hp, b2, by omega⟩
    unfold m__law_use ir__law_use
    simp only [DI.Ev.ss_nil, DI.Ev.ss_cons, DI.Ev.st_try, DI.Ev.ee_0, DI.Ev.ee_1, DI.Ev.ee_2, DI.Ev.ee_3, DI.Ev.ee_4, DI.Ev.ee_5, DI.Ev.ee_6, DI.Ev.ee_7, DI.Ev.ee_8, DI.Ev.ee_9, DI.Ev.ee_10, DI.Ev.ee_11, DI.Ev.ee_12, DI.Ev.ee_13, DI.Ev.ee_14, DI.Ev.ee_15, DI.Ev.ee_16, DI.Ev.ee_17, DI.Ev.ee_18, DI.Ev.ee_19, DI.Ev.ee_20, DI.Ev.ee_21, DI.Ev.ee_22, DI.Ev.ee_23, DI.Ev.ee_24, DI.Ev.ee_25, DI.Ev.ee_26, DI.Ev.ee_27, DI.Ev.ee_28, DI.Ev.ee_29, DI.Ev.ee_30, DI.Ev.es_0, DI.Ev.es_1, DI.Ev.eo_0, DI.Ev.eo_1, DI.Ev.ec_0, DI.Ev.ec_1, DI.Ev.ei_0, DI.Ev.ei_1, DI.Ev.ei_2, DI.Ev.ei_3, DI.Ev.ei_4, DI.Ev.ei_5, DI.Ev.ei_6, DI.Ev.st_0, DI.Ev.st_1, DI.Ev.st_2, DI.Ev.st_3, DI.Ev.st_4, DI.Ev.st_5, DI.Ev.st_6, DI.Ev.st_7, DI.Ev.st_8, DI.Ev.st_9, DI.Ev.st_10, DI.Ev.st_11, DI.Ev.st_12, DI.Ev.st_13, DI.Ev.st_14, DI.Ev.st_17, DI.Ev.st_18, DI.Ev.st_19, DI.Ev.st_20, evH, DI.Ev.compX_nil, DI.Ev.compX_cons, DI.Ev.noX_ok, ↓reduceIte, DI.T.slots, DI.T.slotss, DI.wipeS, DI.Ev.bind_ok, DI.Ev.bind_exc, DI.Ev.out_ok, DI.Ev.out_exc, DI.Ev.seq_nx, DI.Ev.seq_ret, DI.Ev.seq_exc, DI.Ev.seq_brk, DI.Ev.seq_ct, DI.Ev.rnd_nx, DI.Ev.rnd_ct, DI.Ev.rnd_brk, DI.Ev.rnd_ret, DI.Ev.rnd_exc, DI.Ev.tr_nx, DI.Ev.tr_ret, DI.Ev.tr_exc, DI.Ev.fin_ret, DI.Ev.fin_nx, DI.Ev.fin_exc, DI.Ev.st_for, DI.Ev.forF_eq, DI.Ev.e_lcomp, DI.Ev.e_dcomp, DI.Ev.compF_eq, DI.Ev.compG_eq, DI.Ev.forX_cons, DI.Ev.forX_nil, DI.Ev.evF_eq, DI.Ev.nxO_some, DI.Ev.asg_var, DI.Ev.asg_tup, DI.Ev.asg_lst, DI.Ev.asgs_nil, DI.Ev.asgs_cons, DI.Ev.obind, DI.Ev.lift_some, DI.Ev.call_some, DI.Ev.bin_add, DI.Ev.bin_sub, DI.Ev.negD_int, DI.Ev.cmp_lt, DI.Ev.cmp_le, DI.Ev.cmp_gt, DI.Ev.cmp_ge, DI.Ev.cmp_eqI, DI.Ev.cmp_neI, DI.Ev.cmp_eqB, DI.Ev.cmp_neB, DI.Ev.cmp_eqT, splD, List.length_cons, List.length_nil, Nat.reduceAdd, Nat.reduceSub, Nat.reduceLeDiff, Nat.reduceLT, Nat.le_refl, List.cons_append, List.nil_append, List.append_nil, List.map_cons, List.map_nil, List.replicate, List.getElem?_cons_zero, List.getElem?_cons_succ, List.getElem?_nil, List.set_cons_zero, List.set_cons_succ, if_true, if_false, ite_true, ite_false, and_self, and_true, true_and, reduceCtorEq, Bool.not_true, Bool.not_false, decide_true, decide_false, maxLen, f1, t1, bi_len, t2, idx_lst, ex]
    unfold lst40
    simp only [DI.Ev.ss_nil, DI.Ev.ss_cons, DI.Ev.st_try, DI.Ev.ee_0, DI.Ev.ee_1, DI.Ev.ee_2, DI.Ev.ee_3, DI.Ev.ee_4, DI.Ev.ee_5, DI.Ev.ee_6, DI.Ev.ee_7, DI.Ev.ee_8, DI.Ev.ee_9, DI.Ev.ee_10, DI.Ev.ee_11, DI.Ev.ee_12, DI.Ev.ee_13, DI.Ev.ee_14, DI.Ev.ee_15, DI.Ev.ee_16, DI.Ev.ee_17, DI.Ev.ee_18, DI.Ev.ee_19, DI.Ev.ee_20, DI.Ev.ee_21, DI.Ev.ee_22, DI.Ev.ee_23, DI.Ev.ee_24, DI.Ev.ee_25, DI.Ev.ee_26, DI.Ev.ee_27, DI.Ev.ee_28, DI.Ev.ee_29, DI.Ev.ee_30, DI.Ev.es_0, DI.Ev.es_1, DI.Ev.eo_0, DI.Ev.eo_1, DI.Ev.ec_0, DI.Ev.ec_1, DI.Ev.ei_0, DI.Ev.ei_1, DI.Ev.ei_2, DI.Ev.ei_3, DI.Ev.ei_4, DI.Ev.ei_5, DI.Ev.ei_6, DI.Ev.st_0, DI.Ev.st_1, DI.Ev.st_2, DI.Ev.st_3, DI.Ev.st_4, DI.Ev.st_5, DI.Ev.st_6, DI.Ev.st_7, DI.Ev.st_8, DI.Ev.st_9, DI.Ev.st_10, DI.Ev.st_11, DI.Ev.st_12, DI.Ev.st_13, DI.Ev.st_14, DI.Ev.st_17, DI.Ev.st_18, DI.Ev.st_19, DI.Ev.st_20, evH, DI.Ev.compX_nil, DI.Ev.compX_cons, DI.Ev.noX_ok, ↓reduceIte, DI.T.slots, DI.T.slotss, DI.wipeS, DI.Ev.bind_ok, DI.Ev.bind_exc, DI.Ev.out_ok, DI.Ev.out_exc, DI.Ev.seq_nx, DI.Ev.seq_ret, DI.Ev.seq_exc, DI.Ev.seq_brk, DI.Ev.seq_ct, DI.Ev.rnd_nx, DI.Ev.rnd_ct, DI.Ev.rnd_brk, DI.Ev.rnd_ret, DI.Ev.rnd_exc, DI.Ev.tr_nx, DI.Ev.tr_ret, DI.Ev.tr_exc, DI.Ev.fin_ret, DI.Ev.fin_nx, DI.Ev.fin_exc, DI.Ev.st_for, DI.Ev.forF_eq, DI.Ev.e_lcomp, DI.Ev.e_dcomp, DI.Ev.compF_eq, DI.Ev.compG_eq, DI.Ev.forX_cons, DI.Ev.forX_nil, DI.Ev.evF_eq, DI.Ev.nxO_some, DI.Ev.asg_var, DI.Ev.asg_tup, DI.Ev.asg_lst, DI.Ev.asgs_nil, DI.Ev.asgs_cons, DI.Ev.obind, DI.Ev.lift_some, DI.Ev.call_some, DI.Ev.bin_add, DI.Ev.bin_sub, DI.Ev.negD_int, DI.Ev.cmp_lt, DI.Ev.cmp_le, DI.Ev.cmp_gt, DI.Ev.cmp_ge, DI.Ev.cmp_eqI, DI.Ev.cmp_neI, DI.Ev.cmp_eqB, DI.Ev.cmp_neB, DI.Ev.cmp_eqT, splD, List.length_cons, List.length_nil, Nat.reduceAdd, Nat.reduceSub, Nat.reduceLeDiff, Nat.reduceLT, Nat.le_refl, List.cons_append, List.nil_append, List.append_nil, List.map_cons, List.map_nil, List.replicate, List.getElem?_cons_zero, List.getElem?_cons_succ, List.getElem?_nil, List.set_cons_zero, List.set_cons_succ, if_true, if_false, ite_true, ite_false, and_self, and_true, true_and, reduceCtorEq, Bool.not_true, Bool.not_false, decide_true, decide_false, maxLen, idx_tup, atI_0]
  · obtain ⟨d2, m2, w2, c2, t2, p2, p2', b2, k2⟩ := take_ok b1 (by omega) (k := 41) (by decide) (sm_of (by decide))
    have e : ∀ m, m__law_frac [.int d2, .int 40] m = .ok (prq (uq d2)) m := fun m => frac_ok (by decide) (sm_of (by decide)) m
    refine ⟨d2, m2, w2, c2, ?_, by omega, b2, by omega⟩
    unfold m__law_use ir__law_use
    simp only [DI.Ev.ss_nil, DI.Ev.ss_cons, DI.Ev.st_try, DI.Ev.ee_0, DI.Ev.ee_1, DI.Ev.ee_2, DI.Ev.ee_3, DI.Ev.ee_4, DI.Ev.ee_5, DI.Ev.ee_6, DI.Ev.ee_7, DI.Ev.ee_8, DI.Ev.ee_9, DI.Ev.ee_10, DI.Ev.ee_11, DI.Ev.ee_12, DI.Ev.ee_13, DI.Ev.ee_14, DI.Ev.ee_15, DI.Ev.ee_16, DI.Ev.ee_17, DI.Ev.ee_18, DI.Ev.ee_19, DI.Ev.ee_20, DI.Ev.ee_21, DI.Ev.ee_22, DI.Ev.ee_23, DI.Ev.ee_24, DI.Ev.ee_25, DI.Ev.ee_26, DI.Ev.ee_27, DI.Ev.ee_28, DI.Ev.ee_29, DI.Ev.ee_30, DI.Ev.es_0, DI.Ev.es_1, DI.Ev.eo_0, DI.Ev.eo_1, DI.Ev.ec_0, DI.Ev.ec_1, DI.Ev.ei_0, DI.Ev.ei_1, DI.Ev.ei_2, DI.Ev.ei_3, DI.Ev.ei_4, DI.Ev.ei_5, DI.Ev.ei_6, DI.Ev.st_0, DI.Ev.st_1, DI.Ev.st_2, DI.Ev.st_3, DI.Ev.st_4, DI.Ev.st_5, DI.Ev.st_6, DI.Ev.st_7, DI.Ev.st_8, DI.Ev.st_9, DI.Ev.st_10, DI.Ev.st_11, DI.Ev.st_12, DI.Ev.st_13, DI.Ev.st_14, DI.Ev.st_17, DI.Ev.st_18, DI.Ev.st_19, DI.Ev.st_20, evH, DI.Ev.compX_nil, DI.Ev.compX_cons, DI.Ev.noX_ok, ↓reduceIte, DI.T.slots, DI.T.slotss, DI.wipeS, DI.Ev.bind_ok, DI.Ev.bind_exc, DI.Ev.out_ok, DI.Ev.out_exc, DI.Ev.seq_nx, DI.Ev.seq_ret, DI.Ev.seq_exc, DI.Ev.seq_brk, DI.Ev.seq_ct, DI.Ev.rnd_nx, DI.Ev.rnd_ct, DI.Ev.rnd_brk, DI.Ev.rnd_ret, DI.Ev.rnd_exc, DI.Ev.tr_nx, DI.Ev.tr_ret, DI.Ev.tr_exc, DI.Ev.fin_ret, DI.Ev.fin_nx, DI.Ev.fin_exc, DI.Ev.st_for, DI.Ev.forF_eq, DI.Ev.e_lcomp, DI.Ev.e_dcomp, DI.Ev.compF_eq, DI.Ev.compG_eq, DI.Ev.forX_cons, DI.Ev.forX_nil, DI.Ev.evF_eq, DI.Ev.nxO_some, DI.Ev.asg_var, DI.Ev.asg_tup, DI.Ev.asg_lst, DI.Ev.asgs_nil, DI.Ev.asgs_cons, DI.Ev.obind, DI.Ev.lift_some, DI.Ev.call_some, DI.Ev.bin_add, DI.Ev.bin_sub, DI.Ev.negD_int, DI.Ev.cmp_lt, DI.Ev.cmp_le, DI.Ev.cmp_gt, DI.Ev.cmp_ge, DI.Ev.cmp_eqI, DI.Ev.cmp_neI, DI.Ev.cmp_eqB, DI.Ev.cmp_neB, DI.Ev.cmp_eqT, splD, List.length_cons, List.length_nil, Nat.reduceAdd, Nat.reduceSub, Nat.reduceLeDiff, Nat.reduceLT, Nat.le_refl, List.cons_append, List.nil_append, List.append_nil, List.map_cons, List.map_nil, List.replicate, List.getElem?_cons_zero, List.getElem?_cons_succ, List.getElem?_nil, List.set_cons_zero, List.set_cons_succ, if_true, if_false, ite_true, ite_false, and_self, and_true, true_and, reduceCtorEq, Bool.not_true, Bool.not_false, decide_true, decide_false, maxLen, f1, t1, z, t2, e]
/-! ### growth -/
def oneq (q : Q) : Q := (nt (1 * q.2 + q.1 * 1) (1 * q.2), nb (1 * q.2 + q.1 * 1) (1 * q.2))
def mulq (p q : Q) : Q := (nt (p.1 * q.1) (p.2 * q.2), nb (p.1 * q.1) (p.2 * q.2))
def rq (L : List Step) (j : Int) : Q := (rateAt L j).getD (0, 1)
def grown (L : List Step) (a : Q) (js : List Int) : Q := js.foldl (fun a j => mulq a (oneq (rq L j))) a
theorem one_ok {q : Q} (h : OkQ 60 q) : OkQ 70 (oneq q) := by
  have h1 : Bd 1 1 := by unfold Bd; decide
  have hb : (1 * q.2) ≠ 0 := by rw [Int.one_mul]; exact h.nf.ne
  exact ⟨nf_of hb, Bd.of_le ((((h1.mul h.b2).mono (show 1 + 60 ≤ 61 by decide)).add (h.b1.mul h1)).mono (by decide)) (nt_le hb), Bd.of_le ((h1.mul h.b2).mono (by decide)) (nb_le hb)⟩
theorem mulq_ok {j k : Nat} {p q : Q} (hp : OkQ j p) (hq : OkQ k q) : OkQ (j + k) (mulq p q) := by
  have hb : p.2 * q.2 ≠ 0 := Int.mul_ne_zero hp.nf.ne hq.nf.ne
  exact ⟨nf_of hb, Bd.of_le (hp.b1.mul hq.b1) (nt_le hb), Bd.of_le (hp.b2.mul hq.b2) (nb_le hb)⟩
/-- a table of rates that tells one everywhere -/
structure RO (R : List Step) : Prop where
  p : ∀ p ∈ R, OkP p
  len : R.length ≤ 1000
  has : ∀ j, 0 ≤ j → rateAt R j = some (rq R j) ∧ OkQ 60 (rq R j)
theorem OkS.ro {L : List Step} (h : OkS L) : RO L := ⟨fun p hp => h.p hp, by have := h.len; omega, fun j hj => by
  obtain ⟨q, e⟩ := h.has hj
  have e2 : rq L j = q := by unfold rq; rw [e]; rfl
  obtain ⟨p, hp, rfl, _⟩ := rateAt_mem e
  rw [e2]
  exact ⟨e, (h.rate p hp).1⟩⟩
theorem few_len : ∀ (L acc : List Step), (few acc L).length ≤ acc.length + L.length
  | [], acc => by simp [few]
  | p :: L, acc => by
    have := few_len L (if (acc.getLast?).map (·.2) = some p.2 then acc else acc ++ [p])
    simp only [few]
    split at this <;> simp_all <;> omega
theorem OkS.rof {L : List Step} (h : OkS L) : RO (few [] L) := ⟨fun p hp => h.p (few_mem h.asc hp), by have := few_len L []; have := h.len; simp at *; omega, fun j hj => by
  have := h.ro.has j hj
  unfold rq at *
  rw [few_rate h.asc]
  exact this⟩
theorem rq_few {L : List Step} (h : OkS L) (j : Int) : rq (few [] L) j = rq L j := by unfold rq; rw [few_rate h.asc]
theorem grown_few {L : List Step} (h : OkS L) (a : Q) (js : List Int) : grown (few [] L) a js = grown L a js := by
  unfold grown
  congr 1
  funext a j
  rw [rq_few h]
/-- a use as it is handed in -/
def hD (j : Int) : D := if (uq j).2 = 1 then .int (uq j).1 else raq (uq j)
theorem hD_nu (j : Int) : Nu (hD j) (uq j).1 (uq j).2 := by
  unfold hD
  split
  · rename_i h
    rw [h]
    exact nu_int _
  · exact nu_rat (uq_nf j)
def bodyC : List S := match ir_dearer with | .for_ _ _ b :: _ => b | _ => []
def bodyD : List S := match ir_dearer with | _ :: _ :: .for_ _ _ b :: _ => b | _ => []
theorem dear_eq : ir_dearer = [.for_ (.var 3) (.seq (.var 2)) bodyC, .asg (.tup [.var 4, .var 5]) (.tup [.call 1 [.con (.int 1)] [], .call 1 [.con (.int 1)] []]), .for_ (.var 3) (.seq (.var 2)) bodyD, .ret (.tup [.var 4, .var 5])] := rfl
theorem fnD : g_dearer.fn = [m_check_use, m_Ratio1] := rfl
theorem chk_loop {x0 x1 x2 x4 x5 : Option SV} (rest : List D) : ∀ (js : List Int) (x3 : Option SV), (∀ j ∈ js, 0 ≤ j ∧ j ≤ 40) → ∃ x3', forX (forF g_dearer (.var 3) bodyC) (js.map hD ++ rest) [x0, x1, x2, x3, x4, x5] m = forX (forF g_dearer (.var 3) bodyC) rest [x0, x1, x2, x3', x4, x5] m
  | [], x3, _ => ⟨x3, rfl⟩
  | j :: js, x3, h => by
    have hj := h j (List.mem_cons_self ..)
    have hu := uq_ok hj
    obtain ⟨x3', e⟩ := chk_loop (x0 := x0) (x1 := x1) (x2 := x2) (x4 := x4) (x5 := x5) rest js (some (.sh (hD j))) (fun i hi => h i (List.mem_cons_of_mem _ hi))
    have k1 : ∀ m, m_check_use [hD j] m = .ok .non m := fun m => check_use_ok (hD_nu j) (hu.b1.sm (by decide)) (hu.b2.sm (by decide)) (uq_nn hj.1) (uq_1 hj.2)
    have t : asgT (.var 3) (hD j) [x0, x1, x2, x3, x4, x5] = some [x0, x1, x2, some (.sh (hD j)), x4, x5] := rfl
    have eb : evSs g_dearer bodyC [x0, x1, x2, some (.sh (hD j)), x4, x5] m = .nx [x0, x1, x2, some (.sh (hD j)), x4, x5] m := by
      unfold bodyC ir_dearer
      simp only [DI.Ev.ss_nil, DI.Ev.ss_cons, DI.Ev.st_try, DI.Ev.ee_0, DI.Ev.ee_1, DI.Ev.ee_2, DI.Ev.ee_3, DI.Ev.ee_4, DI.Ev.ee_5, DI.Ev.ee_6, DI.Ev.ee_7, DI.Ev.ee_8, DI.Ev.ee_9, DI.Ev.ee_10, DI.Ev.ee_11, DI.Ev.ee_12, DI.Ev.ee_13, DI.Ev.ee_14, DI.Ev.ee_15, DI.Ev.ee_16, DI.Ev.ee_17, DI.Ev.ee_18, DI.Ev.ee_19, DI.Ev.ee_20, DI.Ev.ee_21, DI.Ev.ee_22, DI.Ev.ee_23, DI.Ev.ee_24, DI.Ev.ee_25, DI.Ev.ee_26, DI.Ev.ee_27, DI.Ev.ee_28, DI.Ev.ee_29, DI.Ev.ee_30, DI.Ev.es_0, DI.Ev.es_1, DI.Ev.eo_0, DI.Ev.eo_1, DI.Ev.ec_0, DI.Ev.ec_1, DI.Ev.ei_0, DI.Ev.ei_1, DI.Ev.ei_2, DI.Ev.ei_3, DI.Ev.ei_4, DI.Ev.ei_5, DI.Ev.ei_6, DI.Ev.st_0, DI.Ev.st_1, DI.Ev.st_2, DI.Ev.st_3, DI.Ev.st_4, DI.Ev.st_5, DI.Ev.st_6, DI.Ev.st_7, DI.Ev.st_8, DI.Ev.st_9, DI.Ev.st_10, DI.Ev.st_11, DI.Ev.st_12, DI.Ev.st_13, DI.Ev.st_14, DI.Ev.st_17, DI.Ev.st_18, DI.Ev.st_19, DI.Ev.st_20, evH, DI.Ev.compX_nil, DI.Ev.compX_cons, DI.Ev.noX_ok, ↓reduceIte, DI.T.slots, DI.T.slotss, DI.wipeS, DI.Ev.bind_ok, DI.Ev.bind_exc, DI.Ev.out_ok, DI.Ev.out_exc, DI.Ev.seq_nx, DI.Ev.seq_ret, DI.Ev.seq_exc, DI.Ev.seq_brk, DI.Ev.seq_ct, DI.Ev.rnd_nx, DI.Ev.rnd_ct, DI.Ev.rnd_brk, DI.Ev.rnd_ret, DI.Ev.rnd_exc, DI.Ev.tr_nx, DI.Ev.tr_ret, DI.Ev.tr_exc, DI.Ev.fin_ret, DI.Ev.fin_nx, DI.Ev.fin_exc, DI.Ev.st_for, DI.Ev.forF_eq, DI.Ev.e_lcomp, DI.Ev.e_dcomp, DI.Ev.compF_eq, DI.Ev.compG_eq, DI.Ev.forX_cons, DI.Ev.forX_nil, DI.Ev.evF_eq, DI.Ev.nxO_some, DI.Ev.asg_var, DI.Ev.asg_tup, DI.Ev.asg_lst, DI.Ev.asgs_nil, DI.Ev.asgs_cons, DI.Ev.obind, DI.Ev.lift_some, DI.Ev.call_some, DI.Ev.bin_add, DI.Ev.bin_sub, DI.Ev.negD_int, DI.Ev.cmp_lt, DI.Ev.cmp_le, DI.Ev.cmp_gt, DI.Ev.cmp_ge, DI.Ev.cmp_eqI, DI.Ev.cmp_neI, DI.Ev.cmp_eqB, DI.Ev.cmp_neB, DI.Ev.cmp_eqT, splD, List.length_cons, List.length_nil, Nat.reduceAdd, Nat.reduceSub, Nat.reduceLeDiff, Nat.reduceLT, Nat.le_refl, List.cons_append, List.nil_append, List.append_nil, List.map_cons, List.map_nil, List.replicate, List.getElem?_cons_zero, List.getElem?_cons_succ, List.getElem?_nil, List.set_cons_zero, List.set_cons_succ, if_true, if_false, ite_true, ite_false, and_self, and_true, true_and, reduceCtorEq, Bool.not_true, Bool.not_false, decide_true, decide_false, maxLen, fnD, k1]
    refine ⟨x3', ?_⟩
    rw [List.map_cons, List.cons_append, forX_cons, forF_ap _ _ _ t, eb, rnd_nx]
    exact e
theorem dear_loop {R1 R2 : List Step} (h1 : RO R1) (h2 : RO R2) {x2 : Option SV} : ∀ (js : List Int) (x3 : Option SV) (k : Nat) (p1 p2 : Q), (∀ j ∈ js, 0 ≤ j ∧ j ≤ 40) → OkQ k p1 → OkQ k p2 → k + 70 * js.length ≤ 1900 → ∃ x3',
    forX (forF g_dearer (.var 3) bodyD) (js.map hD) [some (.sh (rul R1)), some (.sh (rul R2)), x2, x3, some (.sh (raq p1)), some (.sh (raq p2))] m = .nx [some (.sh (rul R1)), some (.sh (rul R2)), x2, x3', some (.sh (raq (grown R1 p1 js))), some (.sh (raq (grown R2 p2 js)))] m
  | [], x3, k, p1, p2, _, _, _, _ => ⟨x3, rfl⟩
  | j :: js, x3, k, p1, p2, h, o1, o2, hk => by
    simp only [List.length_cons] at hk
    have hj := h j (List.mem_cons_self ..)
    have step : ∀ {R : List Step}, RO R → ∀ {p : Q}, OkQ k p → (∀ m, m_Rule_rate [rul R, hD j] m = .ok (raq (rq R j)) m) ∧ (∀ m, binD g_dearer .add (raq (rq R j)) (.int 1) m = .ok (raq (oneq (rq R j))) m) ∧ (∀ m, binD g_dearer .mul (raq p) (raq (oneq (rq R j))) m = .ok (raq (mulq p (oneq (rq R j)))) m) ∧ OkQ (k + 70) (mulq p (oneq (rq R j))) := fun {R} hR {p} op => by
      obtain ⟨e1, o⟩ := hR.has j hj.1
      have o1 := one_ok o
      refine ⟨fun m => rate_ok hR.p hR.len hj (hD_nu j) e1, fun m => ?_, fun m => ?_, mulq_ok op o1⟩
      · have := (op_add (fs := [m_check_use, m_Ratio1]) (me := [[(1, m_Rule_rate)]]) (m := m) (n := 1) (a := (rq R j).1) (b := (rq R j).2) (.int 1) (.inl rfl)).trans (add_ok (ch_int 1) o.nf.ne (by decide) (o.b1.sm (by decide)) (o.b2.sm (by decide)) (sm_of (by decide)) (sm_of (by decide)) (by rw [Int.mul_one]; exact o.b2.sm (by decide)))
        rw [Int.add_comm ((rq R j).1 * 1), Int.mul_comm (rq R j).2 1] at this
        exact this
      · exact (op_mul (fs := [m_check_use, m_Ratio1]) (me := [[(1, m_Rule_rate)]]) (m := m) (n := 0) (a := p.1) (b := p.2) (raq (oneq (rq R j))) (.inr ⟨_, _, rfl⟩)).trans (mul_ok (ch_rat _ _) op.nf.ne o1.nf.ne (op.b1.sm (by omega)) (op.b2.sm (by omega)) (o1.b1.sm (by decide)) (o1.b2.sm (by decide)) ((op.b2.mul o1.b2).sm (by omega)))
    obtain ⟨a1, a2, a3, a4⟩ := step h1 o1
    obtain ⟨b1, b2, b3, b4⟩ := step h2 o2
    have mo : ∀ R m, methD g_dearer 0 "rate" (rul R) m = some m_Rule_rate := fun R m => bx_same (fs := [m_check_use, m_Ratio1]) (me := [[(1, m_Rule_rate)]]) rfl rfl nm_rate
    obtain ⟨x3', e⟩ := dear_loop h1 h2 (x2 := x2) js (some (.sh (hD j))) (k + 70) _ _ (fun i hi => h i (List.mem_cons_of_mem _ hi)) a4 b4 (by omega)
    have t : asgT (.var 3) (hD j) [some (.sh (rul R1)), some (.sh (rul R2)), x2, x3, some (.sh (raq p1)), some (.sh (raq p2))] = some [some (.sh (rul R1)), some (.sh (rul R2)), x2, some (.sh (hD j)), some (.sh (raq p1)), some (.sh (raq p2))] := rfl
    have eb : evSs g_dearer bodyD [some (.sh (rul R1)), some (.sh (rul R2)), x2, some (.sh (hD j)), some (.sh (raq p1)), some (.sh (raq p2))] m = .nx [some (.sh (rul R1)), some (.sh (rul R2)), x2, some (.sh (hD j)), some (.sh (raq (mulq p1 (oneq (rq R1 j))))), some (.sh (raq (mulq p2 (oneq (rq R2 j)))))] m := by
      unfold bodyD ir_dearer
      simp only [DI.Ev.ss_nil, DI.Ev.ss_cons, DI.Ev.st_try, DI.Ev.ee_0, DI.Ev.ee_1, DI.Ev.ee_2, DI.Ev.ee_3, DI.Ev.ee_4, DI.Ev.ee_5, DI.Ev.ee_6, DI.Ev.ee_7, DI.Ev.ee_8, DI.Ev.ee_9, DI.Ev.ee_10, DI.Ev.ee_11, DI.Ev.ee_12, DI.Ev.ee_13, DI.Ev.ee_14, DI.Ev.ee_15, DI.Ev.ee_16, DI.Ev.ee_17, DI.Ev.ee_18, DI.Ev.ee_19, DI.Ev.ee_20, DI.Ev.ee_21, DI.Ev.ee_22, DI.Ev.ee_23, DI.Ev.ee_24, DI.Ev.ee_25, DI.Ev.ee_26, DI.Ev.ee_27, DI.Ev.ee_28, DI.Ev.ee_29, DI.Ev.ee_30, DI.Ev.es_0, DI.Ev.es_1, DI.Ev.eo_0, DI.Ev.eo_1, DI.Ev.ec_0, DI.Ev.ec_1, DI.Ev.ei_0, DI.Ev.ei_1, DI.Ev.ei_2, DI.Ev.ei_3, DI.Ev.ei_4, DI.Ev.ei_5, DI.Ev.ei_6, DI.Ev.st_0, DI.Ev.st_1, DI.Ev.st_2, DI.Ev.st_3, DI.Ev.st_4, DI.Ev.st_5, DI.Ev.st_6, DI.Ev.st_7, DI.Ev.st_8, DI.Ev.st_9, DI.Ev.st_10, DI.Ev.st_11, DI.Ev.st_12, DI.Ev.st_13, DI.Ev.st_14, DI.Ev.st_17, DI.Ev.st_18, DI.Ev.st_19, DI.Ev.st_20, evH, DI.Ev.compX_nil, DI.Ev.compX_cons, DI.Ev.noX_ok, ↓reduceIte, DI.T.slots, DI.T.slotss, DI.wipeS, DI.Ev.bind_ok, DI.Ev.bind_exc, DI.Ev.out_ok, DI.Ev.out_exc, DI.Ev.seq_nx, DI.Ev.seq_ret, DI.Ev.seq_exc, DI.Ev.seq_brk, DI.Ev.seq_ct, DI.Ev.rnd_nx, DI.Ev.rnd_ct, DI.Ev.rnd_brk, DI.Ev.rnd_ret, DI.Ev.rnd_exc, DI.Ev.tr_nx, DI.Ev.tr_ret, DI.Ev.tr_exc, DI.Ev.fin_ret, DI.Ev.fin_nx, DI.Ev.fin_exc, DI.Ev.st_for, DI.Ev.forF_eq, DI.Ev.e_lcomp, DI.Ev.e_dcomp, DI.Ev.compF_eq, DI.Ev.compG_eq, DI.Ev.forX_cons, DI.Ev.forX_nil, DI.Ev.evF_eq, DI.Ev.nxO_some, DI.Ev.asg_var, DI.Ev.asg_tup, DI.Ev.asg_lst, DI.Ev.asgs_nil, DI.Ev.asgs_cons, DI.Ev.obind, DI.Ev.lift_some, DI.Ev.call_some, DI.Ev.bin_add, DI.Ev.bin_sub, DI.Ev.negD_int, DI.Ev.cmp_lt, DI.Ev.cmp_le, DI.Ev.cmp_gt, DI.Ev.cmp_ge, DI.Ev.cmp_eqI, DI.Ev.cmp_neI, DI.Ev.cmp_eqB, DI.Ev.cmp_neB, DI.Ev.cmp_eqT, splD, List.length_cons, List.length_nil, Nat.reduceAdd, Nat.reduceSub, Nat.reduceLeDiff, Nat.reduceLT, Nat.le_refl, List.cons_append, List.nil_append, List.append_nil, List.map_cons, List.map_nil, List.replicate, List.getElem?_cons_zero, List.getElem?_cons_succ, List.getElem?_nil, List.set_cons_zero, List.set_cons_succ, if_true, if_false, ite_true, ite_false, and_self, and_true, true_and, reduceCtorEq, Bool.not_true, Bool.not_false, decide_true, decide_false, maxLen, mo, a1, a2, a3, b1, b2, b3]
    refine ⟨x3', ?_⟩
    rw [List.map_cons, forX_cons, forF_ap _ _ _ t, eb, rnd_nx]
    exact e
theorem q1_ok : OkQ 1 ((1, 1) : Q) := ⟨nf_int 1, show (1 : Int).natAbs < 2 ^ 1 by decide, show (1 : Int).natAbs < 2 ^ 1 by decide⟩
theorem dearer_ok {R1 R2 : List Step} (h1 : RO R1) (h2 : RO R2) {js : List Int} (h : ∀ j ∈ js, 0 ≤ j ∧ j ≤ 40) (hl : js.length ≤ 20) : m_dearer [rul R1, rul R2, .lst (js.map hD)] m = .ok (.tup [raq (grown R1 (1, 1) js), raq (grown R2 (1, 1) js)]) m := by
  obtain ⟨z3, e1⟩ := chk_loop (m := m) (x0 := some (.sh (rul R1))) (x1 := some (.sh (rul R2))) (x2 := some (.sh (.lst (js.map hD)))) (x4 := none) (x5 := none) [] js none h
  rw [List.append_nil] at e1
  obtain ⟨w3, e2⟩ := dear_loop (m := m) h1 h2 (x2 := some (.sh (.lst (js.map hD)))) js z3 1 (1, 1) (1, 1) h q1_ok q1_ok (by omega)
  have r1 : ∀ m, m_Ratio1 [.int 1] m = .ok (raq (1, 1)) m := fun m => Ratio1_ok 1 m
  unfold m_dearer
  rw [dear_eq]
  simp only [DI.Ev.ss_nil, DI.Ev.ss_cons, DI.Ev.st_try, DI.Ev.ee_0, DI.Ev.ee_1, DI.Ev.ee_2, DI.Ev.ee_3, DI.Ev.ee_4, DI.Ev.ee_5, DI.Ev.ee_6, DI.Ev.ee_7, DI.Ev.ee_8, DI.Ev.ee_9, DI.Ev.ee_10, DI.Ev.ee_11, DI.Ev.ee_12, DI.Ev.ee_13, DI.Ev.ee_14, DI.Ev.ee_15, DI.Ev.ee_16, DI.Ev.ee_17, DI.Ev.ee_18, DI.Ev.ee_19, DI.Ev.ee_20, DI.Ev.ee_21, DI.Ev.ee_22, DI.Ev.ee_23, DI.Ev.ee_24, DI.Ev.ee_25, DI.Ev.ee_26, DI.Ev.ee_27, DI.Ev.ee_28, DI.Ev.ee_29, DI.Ev.ee_30, DI.Ev.es_0, DI.Ev.es_1, DI.Ev.eo_0, DI.Ev.eo_1, DI.Ev.ec_0, DI.Ev.ec_1, DI.Ev.ei_0, DI.Ev.ei_1, DI.Ev.ei_2, DI.Ev.ei_3, DI.Ev.ei_4, DI.Ev.ei_5, DI.Ev.ei_6, DI.Ev.st_0, DI.Ev.st_1, DI.Ev.st_2, DI.Ev.st_3, DI.Ev.st_4, DI.Ev.st_5, DI.Ev.st_6, DI.Ev.st_7, DI.Ev.st_8, DI.Ev.st_9, DI.Ev.st_10, DI.Ev.st_11, DI.Ev.st_12, DI.Ev.st_13, DI.Ev.st_14, DI.Ev.st_17, DI.Ev.st_18, DI.Ev.st_19, DI.Ev.st_20, evH, DI.Ev.compX_nil, DI.Ev.compX_cons, DI.Ev.noX_ok, ↓reduceIte, DI.T.slots, DI.T.slotss, DI.wipeS, DI.Ev.bind_ok, DI.Ev.bind_exc, DI.Ev.out_ok, DI.Ev.out_exc, DI.Ev.seq_nx, DI.Ev.seq_ret, DI.Ev.seq_exc, DI.Ev.seq_brk, DI.Ev.seq_ct, DI.Ev.rnd_nx, DI.Ev.rnd_ct, DI.Ev.rnd_brk, DI.Ev.rnd_ret, DI.Ev.rnd_exc, DI.Ev.tr_nx, DI.Ev.tr_ret, DI.Ev.tr_exc, DI.Ev.fin_ret, DI.Ev.fin_nx, DI.Ev.fin_exc, DI.Ev.st_for, DI.Ev.forF_eq, DI.Ev.e_lcomp, DI.Ev.e_dcomp, DI.Ev.compF_eq, DI.Ev.compG_eq, DI.Ev.forX_cons, DI.Ev.forX_nil, DI.Ev.evF_eq, DI.Ev.nxO_some, DI.Ev.asg_var, DI.Ev.asg_tup, DI.Ev.asg_lst, DI.Ev.asgs_nil, DI.Ev.asgs_cons, DI.Ev.obind, DI.Ev.lift_some, DI.Ev.call_some, DI.Ev.bin_add, DI.Ev.bin_sub, DI.Ev.negD_int, DI.Ev.cmp_lt, DI.Ev.cmp_le, DI.Ev.cmp_gt, DI.Ev.cmp_ge, DI.Ev.cmp_eqI, DI.Ev.cmp_neI, DI.Ev.cmp_eqB, DI.Ev.cmp_neB, DI.Ev.cmp_eqT, splD, List.length_cons, List.length_nil, Nat.reduceAdd, Nat.reduceSub, Nat.reduceLeDiff, Nat.reduceLT, Nat.le_refl, List.cons_append, List.nil_append, List.append_nil, List.map_cons, List.map_nil, List.replicate, List.getElem?_cons_zero, List.getElem?_cons_succ, List.getElem?_nil, List.set_cons_zero, List.set_cons_succ, if_true, if_false, ite_true, ite_false, and_self, and_true, true_and, reduceCtorEq, Bool.not_true, Bool.not_false, decide_true, decide_false, maxLen, it_lst]
  rw [e1]
  simp only [DI.Ev.ss_nil, DI.Ev.ss_cons, DI.Ev.st_try, DI.Ev.ee_0, DI.Ev.ee_1, DI.Ev.ee_2, DI.Ev.ee_3, DI.Ev.ee_4, DI.Ev.ee_5, DI.Ev.ee_6, DI.Ev.ee_7, DI.Ev.ee_8, DI.Ev.ee_9, DI.Ev.ee_10, DI.Ev.ee_11, DI.Ev.ee_12, DI.Ev.ee_13, DI.Ev.ee_14, DI.Ev.ee_15, DI.Ev.ee_16, DI.Ev.ee_17, DI.Ev.ee_18, DI.Ev.ee_19, DI.Ev.ee_20, DI.Ev.ee_21, DI.Ev.ee_22, DI.Ev.ee_23, DI.Ev.ee_24, DI.Ev.ee_25, DI.Ev.ee_26, DI.Ev.ee_27, DI.Ev.ee_28, DI.Ev.ee_29, DI.Ev.ee_30, DI.Ev.es_0, DI.Ev.es_1, DI.Ev.eo_0, DI.Ev.eo_1, DI.Ev.ec_0, DI.Ev.ec_1, DI.Ev.ei_0, DI.Ev.ei_1, DI.Ev.ei_2, DI.Ev.ei_3, DI.Ev.ei_4, DI.Ev.ei_5, DI.Ev.ei_6, DI.Ev.st_0, DI.Ev.st_1, DI.Ev.st_2, DI.Ev.st_3, DI.Ev.st_4, DI.Ev.st_5, DI.Ev.st_6, DI.Ev.st_7, DI.Ev.st_8, DI.Ev.st_9, DI.Ev.st_10, DI.Ev.st_11, DI.Ev.st_12, DI.Ev.st_13, DI.Ev.st_14, DI.Ev.st_17, DI.Ev.st_18, DI.Ev.st_19, DI.Ev.st_20, evH, DI.Ev.compX_nil, DI.Ev.compX_cons, DI.Ev.noX_ok, ↓reduceIte, DI.T.slots, DI.T.slotss, DI.wipeS, DI.Ev.bind_ok, DI.Ev.bind_exc, DI.Ev.out_ok, DI.Ev.out_exc, DI.Ev.seq_nx, DI.Ev.seq_ret, DI.Ev.seq_exc, DI.Ev.seq_brk, DI.Ev.seq_ct, DI.Ev.rnd_nx, DI.Ev.rnd_ct, DI.Ev.rnd_brk, DI.Ev.rnd_ret, DI.Ev.rnd_exc, DI.Ev.tr_nx, DI.Ev.tr_ret, DI.Ev.tr_exc, DI.Ev.fin_ret, DI.Ev.fin_nx, DI.Ev.fin_exc, DI.Ev.st_for, DI.Ev.forF_eq, DI.Ev.e_lcomp, DI.Ev.e_dcomp, DI.Ev.compF_eq, DI.Ev.compG_eq, DI.Ev.forX_cons, DI.Ev.forX_nil, DI.Ev.evF_eq, DI.Ev.nxO_some, DI.Ev.asg_var, DI.Ev.asg_tup, DI.Ev.asg_lst, DI.Ev.asgs_nil, DI.Ev.asgs_cons, DI.Ev.obind, DI.Ev.lift_some, DI.Ev.call_some, DI.Ev.bin_add, DI.Ev.bin_sub, DI.Ev.negD_int, DI.Ev.cmp_lt, DI.Ev.cmp_le, DI.Ev.cmp_gt, DI.Ev.cmp_ge, DI.Ev.cmp_eqI, DI.Ev.cmp_neI, DI.Ev.cmp_eqB, DI.Ev.cmp_neB, DI.Ev.cmp_eqT, splD, List.length_cons, List.length_nil, Nat.reduceAdd, Nat.reduceSub, Nat.reduceLeDiff, Nat.reduceLT, Nat.le_refl, List.cons_append, List.nil_append, List.append_nil, List.map_cons, List.map_nil, List.replicate, List.getElem?_cons_zero, List.getElem?_cons_succ, List.getElem?_nil, List.set_cons_zero, List.set_cons_succ, if_true, if_false, ite_true, ite_false, and_self, and_true, true_and, reduceCtorEq, Bool.not_true, Bool.not_false, decide_true, decide_false, maxLen, fnD, r1, it_lst]
  rw [e2]
  simp only [DI.Ev.ss_nil, DI.Ev.ss_cons, DI.Ev.st_try, DI.Ev.ee_0, DI.Ev.ee_1, DI.Ev.ee_2, DI.Ev.ee_3, DI.Ev.ee_4, DI.Ev.ee_5, DI.Ev.ee_6, DI.Ev.ee_7, DI.Ev.ee_8, DI.Ev.ee_9, DI.Ev.ee_10, DI.Ev.ee_11, DI.Ev.ee_12, DI.Ev.ee_13, DI.Ev.ee_14, DI.Ev.ee_15, DI.Ev.ee_16, DI.Ev.ee_17, DI.Ev.ee_18, DI.Ev.ee_19, DI.Ev.ee_20, DI.Ev.ee_21, DI.Ev.ee_22, DI.Ev.ee_23, DI.Ev.ee_24, DI.Ev.ee_25, DI.Ev.ee_26, DI.Ev.ee_27, DI.Ev.ee_28, DI.Ev.ee_29, DI.Ev.ee_30, DI.Ev.es_0, DI.Ev.es_1, DI.Ev.eo_0, DI.Ev.eo_1, DI.Ev.ec_0, DI.Ev.ec_1, DI.Ev.ei_0, DI.Ev.ei_1, DI.Ev.ei_2, DI.Ev.ei_3, DI.Ev.ei_4, DI.Ev.ei_5, DI.Ev.ei_6, DI.Ev.st_0, DI.Ev.st_1, DI.Ev.st_2, DI.Ev.st_3, DI.Ev.st_4, DI.Ev.st_5, DI.Ev.st_6, DI.Ev.st_7, DI.Ev.st_8, DI.Ev.st_9, DI.Ev.st_10, DI.Ev.st_11, DI.Ev.st_12, DI.Ev.st_13, DI.Ev.st_14, DI.Ev.st_17, DI.Ev.st_18, DI.Ev.st_19, DI.Ev.st_20, evH, DI.Ev.compX_nil, DI.Ev.compX_cons, DI.Ev.noX_ok, ↓reduceIte, DI.T.slots, DI.T.slotss, DI.wipeS, DI.Ev.bind_ok, DI.Ev.bind_exc, DI.Ev.out_ok, DI.Ev.out_exc, DI.Ev.seq_nx, DI.Ev.seq_ret, DI.Ev.seq_exc, DI.Ev.seq_brk, DI.Ev.seq_ct, DI.Ev.rnd_nx, DI.Ev.rnd_ct, DI.Ev.rnd_brk, DI.Ev.rnd_ret, DI.Ev.rnd_exc, DI.Ev.tr_nx, DI.Ev.tr_ret, DI.Ev.tr_exc, DI.Ev.fin_ret, DI.Ev.fin_nx, DI.Ev.fin_exc, DI.Ev.st_for, DI.Ev.forF_eq, DI.Ev.e_lcomp, DI.Ev.e_dcomp, DI.Ev.compF_eq, DI.Ev.compG_eq, DI.Ev.forX_cons, DI.Ev.forX_nil, DI.Ev.evF_eq, DI.Ev.nxO_some, DI.Ev.asg_var, DI.Ev.asg_tup, DI.Ev.asg_lst, DI.Ev.asgs_nil, DI.Ev.asgs_cons, DI.Ev.obind, DI.Ev.lift_some, DI.Ev.call_some, DI.Ev.bin_add, DI.Ev.bin_sub, DI.Ev.negD_int, DI.Ev.cmp_lt, DI.Ev.cmp_le, DI.Ev.cmp_gt, DI.Ev.cmp_ge, DI.Ev.cmp_eqI, DI.Ev.cmp_neI, DI.Ev.cmp_eqB, DI.Ev.cmp_neB, DI.Ev.cmp_eqT, splD, List.length_cons, List.length_nil, Nat.reduceAdd, Nat.reduceSub, Nat.reduceLeDiff, Nat.reduceLT, Nat.le_refl, List.cons_append, List.nil_append, List.append_nil, List.map_cons, List.map_nil, List.replicate, List.getElem?_cons_zero, List.getElem?_cons_succ, List.getElem?_nil, List.set_cons_zero, List.set_cons_succ, if_true, if_false, ite_true, ite_false, and_self, and_true, true_and, reduceCtorEq, Bool.not_true, Bool.not_false, decide_true, decide_false, maxLen]
theorem dearer_no {R1 R2 : List Step} {js : List Int} (h : ∀ j ∈ js, 0 ≤ j ∧ j ≤ 40) {o : D} (ho : ∀ m, m_check_use [o] m = .exc ⟨"BadUse", some o⟩ m) : m_dearer [rul R1, rul R2, .lst (js.map hD ++ [o, .non])] m = .exc ⟨"BadUse", some o⟩ m := by
  obtain ⟨z3, e1⟩ := chk_loop (m := m) (x0 := some (.sh (rul R1))) (x1 := some (.sh (rul R2))) (x2 := some (.sh (.lst (js.map hD ++ [o, .non])))) (x4 := none) (x5 := none) [o, .non] js none h
  unfold m_dearer
  rw [dear_eq]
  simp only [DI.Ev.ss_nil, DI.Ev.ss_cons, DI.Ev.st_try, DI.Ev.ee_0, DI.Ev.ee_1, DI.Ev.ee_2, DI.Ev.ee_3, DI.Ev.ee_4, DI.Ev.ee_5, DI.Ev.ee_6, DI.Ev.ee_7, DI.Ev.ee_8, DI.Ev.ee_9, DI.Ev.ee_10, DI.Ev.ee_11, DI.Ev.ee_12, DI.Ev.ee_13, DI.Ev.ee_14, DI.Ev.ee_15, DI.Ev.ee_16, DI.Ev.ee_17, DI.Ev.ee_18, DI.Ev.ee_19, DI.Ev.ee_20, DI.Ev.ee_21, DI.Ev.ee_22, DI.Ev.ee_23, DI.Ev.ee_24, DI.Ev.ee_25, DI.Ev.ee_26, DI.Ev.ee_27, DI.Ev.ee_28, DI.Ev.ee_29, DI.Ev.ee_30, DI.Ev.es_0, DI.Ev.es_1, DI.Ev.eo_0, DI.Ev.eo_1, DI.Ev.ec_0, DI.Ev.ec_1, DI.Ev.ei_0, DI.Ev.ei_1, DI.Ev.ei_2, DI.Ev.ei_3, DI.Ev.ei_4, DI.Ev.ei_5, DI.Ev.ei_6, DI.Ev.st_0, DI.Ev.st_1, DI.Ev.st_2, DI.Ev.st_3, DI.Ev.st_4, DI.Ev.st_5, DI.Ev.st_6, DI.Ev.st_7, DI.Ev.st_8, DI.Ev.st_9, DI.Ev.st_10, DI.Ev.st_11, DI.Ev.st_12, DI.Ev.st_13, DI.Ev.st_14, DI.Ev.st_17, DI.Ev.st_18, DI.Ev.st_19, DI.Ev.st_20, evH, DI.Ev.compX_nil, DI.Ev.compX_cons, DI.Ev.noX_ok, ↓reduceIte, DI.T.slots, DI.T.slotss, DI.wipeS, DI.Ev.bind_ok, DI.Ev.bind_exc, DI.Ev.out_ok, DI.Ev.out_exc, DI.Ev.seq_nx, DI.Ev.seq_ret, DI.Ev.seq_exc, DI.Ev.seq_brk, DI.Ev.seq_ct, DI.Ev.rnd_nx, DI.Ev.rnd_ct, DI.Ev.rnd_brk, DI.Ev.rnd_ret, DI.Ev.rnd_exc, DI.Ev.tr_nx, DI.Ev.tr_ret, DI.Ev.tr_exc, DI.Ev.fin_ret, DI.Ev.fin_nx, DI.Ev.fin_exc, DI.Ev.st_for, DI.Ev.forF_eq, DI.Ev.e_lcomp, DI.Ev.e_dcomp, DI.Ev.compF_eq, DI.Ev.compG_eq, DI.Ev.forX_cons, DI.Ev.forX_nil, DI.Ev.evF_eq, DI.Ev.nxO_some, DI.Ev.asg_var, DI.Ev.asg_tup, DI.Ev.asg_lst, DI.Ev.asgs_nil, DI.Ev.asgs_cons, DI.Ev.obind, DI.Ev.lift_some, DI.Ev.call_some, DI.Ev.bin_add, DI.Ev.bin_sub, DI.Ev.negD_int, DI.Ev.cmp_lt, DI.Ev.cmp_le, DI.Ev.cmp_gt, DI.Ev.cmp_ge, DI.Ev.cmp_eqI, DI.Ev.cmp_neI, DI.Ev.cmp_eqB, DI.Ev.cmp_neB, DI.Ev.cmp_eqT, splD, List.length_cons, List.length_nil, Nat.reduceAdd, Nat.reduceSub, Nat.reduceLeDiff, Nat.reduceLT, Nat.le_refl, List.cons_append, List.nil_append, List.append_nil, List.map_cons, List.map_nil, List.replicate, List.getElem?_cons_zero, List.getElem?_cons_succ, List.getElem?_nil, List.set_cons_zero, List.set_cons_succ, if_true, if_false, ite_true, ite_false, and_self, and_true, true_and, reduceCtorEq, Bool.not_true, Bool.not_false, decide_true, decide_false, maxLen, it_lst]
  rw [e1]
  unfold bodyC ir_dearer
  simp only [DI.Ev.ss_nil, DI.Ev.ss_cons, DI.Ev.st_try, DI.Ev.ee_0, DI.Ev.ee_1, DI.Ev.ee_2, DI.Ev.ee_3, DI.Ev.ee_4, DI.Ev.ee_5, DI.Ev.ee_6, DI.Ev.ee_7, DI.Ev.ee_8, DI.Ev.ee_9, DI.Ev.ee_10, DI.Ev.ee_11, DI.Ev.ee_12, DI.Ev.ee_13, DI.Ev.ee_14, DI.Ev.ee_15, DI.Ev.ee_16, DI.Ev.ee_17, DI.Ev.ee_18, DI.Ev.ee_19, DI.Ev.ee_20, DI.Ev.ee_21, DI.Ev.ee_22, DI.Ev.ee_23, DI.Ev.ee_24, DI.Ev.ee_25, DI.Ev.ee_26, DI.Ev.ee_27, DI.Ev.ee_28, DI.Ev.ee_29, DI.Ev.ee_30, DI.Ev.es_0, DI.Ev.es_1, DI.Ev.eo_0, DI.Ev.eo_1, DI.Ev.ec_0, DI.Ev.ec_1, DI.Ev.ei_0, DI.Ev.ei_1, DI.Ev.ei_2, DI.Ev.ei_3, DI.Ev.ei_4, DI.Ev.ei_5, DI.Ev.ei_6, DI.Ev.st_0, DI.Ev.st_1, DI.Ev.st_2, DI.Ev.st_3, DI.Ev.st_4, DI.Ev.st_5, DI.Ev.st_6, DI.Ev.st_7, DI.Ev.st_8, DI.Ev.st_9, DI.Ev.st_10, DI.Ev.st_11, DI.Ev.st_12, DI.Ev.st_13, DI.Ev.st_14, DI.Ev.st_17, DI.Ev.st_18, DI.Ev.st_19, DI.Ev.st_20, evH, DI.Ev.compX_nil, DI.Ev.compX_cons, DI.Ev.noX_ok, ↓reduceIte, DI.T.slots, DI.T.slotss, DI.wipeS, DI.Ev.bind_ok, DI.Ev.bind_exc, DI.Ev.out_ok, DI.Ev.out_exc, DI.Ev.seq_nx, DI.Ev.seq_ret, DI.Ev.seq_exc, DI.Ev.seq_brk, DI.Ev.seq_ct, DI.Ev.rnd_nx, DI.Ev.rnd_ct, DI.Ev.rnd_brk, DI.Ev.rnd_ret, DI.Ev.rnd_exc, DI.Ev.tr_nx, DI.Ev.tr_ret, DI.Ev.tr_exc, DI.Ev.fin_ret, DI.Ev.fin_nx, DI.Ev.fin_exc, DI.Ev.st_for, DI.Ev.forF_eq, DI.Ev.e_lcomp, DI.Ev.e_dcomp, DI.Ev.compF_eq, DI.Ev.compG_eq, DI.Ev.forX_cons, DI.Ev.forX_nil, DI.Ev.evF_eq, DI.Ev.nxO_some, DI.Ev.asg_var, DI.Ev.asg_tup, DI.Ev.asg_lst, DI.Ev.asgs_nil, DI.Ev.asgs_cons, DI.Ev.obind, DI.Ev.lift_some, DI.Ev.call_some, DI.Ev.bin_add, DI.Ev.bin_sub, DI.Ev.negD_int, DI.Ev.cmp_lt, DI.Ev.cmp_le, DI.Ev.cmp_gt, DI.Ev.cmp_ge, DI.Ev.cmp_eqI, DI.Ev.cmp_neI, DI.Ev.cmp_eqB, DI.Ev.cmp_neB, DI.Ev.cmp_eqT, splD, List.length_cons, List.length_nil, Nat.reduceAdd, Nat.reduceSub, Nat.reduceLeDiff, Nat.reduceLT, Nat.le_refl, List.cons_append, List.nil_append, List.append_nil, List.map_cons, List.map_nil, List.replicate, List.getElem?_cons_zero, List.getElem?_cons_succ, List.getElem?_nil, List.set_cons_zero, List.set_cons_succ, if_true, if_false, ite_true, ite_false, and_self, and_true, true_and, reduceCtorEq, Bool.not_true, Bool.not_false, decide_true, decide_false, maxLen, fnD, ho]
theorem tk_same (x : Str) (o : Option D) : takesX x ⟨x, o⟩ = true := by simp [takesX, takesC]
theorem ea_given : ("given" = excAttr "BadUse") = True := by
  have : excAttr "BadUse" = "given" := by decide +kernel
  simp [this]
theorem suf_ret (i : Option Nat) (d : D) : sufX i (.ret d m) = .ret d m := rfl
theorem refused_ok {R1 R2 : List Step} {js : List Int} (h : ∀ j ∈ js, 0 ≤ j ∧ j ≤ 40) {o : D} (ho : ∀ m, m_check_use [o] m = .exc ⟨"BadUse", some o⟩ m) : m__law_refused [rul R1, rul R2, .lst (js.map hD ++ [o, .non])] m = .ok (.lst [o]) m := by
  have f1 : g__law_refused.fn = [m_dearer] := rfl
  unfold m__law_refused ir__law_refused
  simp only [DI.Ev.ss_nil, DI.Ev.ss_cons, DI.Ev.st_try, DI.Ev.ee_0, DI.Ev.ee_1, DI.Ev.ee_2, DI.Ev.ee_3, DI.Ev.ee_4, DI.Ev.ee_5, DI.Ev.ee_6, DI.Ev.ee_7, DI.Ev.ee_8, DI.Ev.ee_9, DI.Ev.ee_10, DI.Ev.ee_11, DI.Ev.ee_12, DI.Ev.ee_13, DI.Ev.ee_14, DI.Ev.ee_15, DI.Ev.ee_16, DI.Ev.ee_17, DI.Ev.ee_18, DI.Ev.ee_19, DI.Ev.ee_20, DI.Ev.ee_21, DI.Ev.ee_22, DI.Ev.ee_23, DI.Ev.ee_24, DI.Ev.ee_25, DI.Ev.ee_26, DI.Ev.ee_27, DI.Ev.ee_28, DI.Ev.ee_29, DI.Ev.ee_30, DI.Ev.es_0, DI.Ev.es_1, DI.Ev.eo_0, DI.Ev.eo_1, DI.Ev.ec_0, DI.Ev.ec_1, DI.Ev.ei_0, DI.Ev.ei_1, DI.Ev.ei_2, DI.Ev.ei_3, DI.Ev.ei_4, DI.Ev.ei_5, DI.Ev.ei_6, DI.Ev.st_0, DI.Ev.st_1, DI.Ev.st_2, DI.Ev.st_3, DI.Ev.st_4, DI.Ev.st_5, DI.Ev.st_6, DI.Ev.st_7, DI.Ev.st_8, DI.Ev.st_9, DI.Ev.st_10, DI.Ev.st_11, DI.Ev.st_12, DI.Ev.st_13, DI.Ev.st_14, DI.Ev.st_17, DI.Ev.st_18, DI.Ev.st_19, DI.Ev.st_20, evH, DI.Ev.compX_nil, DI.Ev.compX_cons, DI.Ev.noX_ok, ↓reduceIte, DI.T.slots, DI.T.slotss, DI.wipeS, DI.Ev.bind_ok, DI.Ev.bind_exc, DI.Ev.out_ok, DI.Ev.out_exc, DI.Ev.seq_nx, DI.Ev.seq_ret, DI.Ev.seq_exc, DI.Ev.seq_brk, DI.Ev.seq_ct, DI.Ev.rnd_nx, DI.Ev.rnd_ct, DI.Ev.rnd_brk, DI.Ev.rnd_ret, DI.Ev.rnd_exc, DI.Ev.tr_nx, DI.Ev.tr_ret, DI.Ev.tr_exc, DI.Ev.fin_ret, DI.Ev.fin_nx, DI.Ev.fin_exc, DI.Ev.st_for, DI.Ev.forF_eq, DI.Ev.e_lcomp, DI.Ev.e_dcomp, DI.Ev.compF_eq, DI.Ev.compG_eq, DI.Ev.forX_cons, DI.Ev.forX_nil, DI.Ev.evF_eq, DI.Ev.nxO_some, DI.Ev.asg_var, DI.Ev.asg_tup, DI.Ev.asg_lst, DI.Ev.asgs_nil, DI.Ev.asgs_cons, DI.Ev.obind, DI.Ev.lift_some, DI.Ev.call_some, DI.Ev.bin_add, DI.Ev.bin_sub, DI.Ev.negD_int, DI.Ev.cmp_lt, DI.Ev.cmp_le, DI.Ev.cmp_gt, DI.Ev.cmp_ge, DI.Ev.cmp_eqI, DI.Ev.cmp_neI, DI.Ev.cmp_eqB, DI.Ev.cmp_neB, DI.Ev.cmp_eqT, splD, List.length_cons, List.length_nil, Nat.reduceAdd, Nat.reduceSub, Nat.reduceLeDiff, Nat.reduceLT, Nat.le_refl, List.cons_append, List.nil_append, List.append_nil, List.map_cons, List.map_nil, List.replicate, List.getElem?_cons_zero, List.getElem?_cons_succ, List.getElem?_nil, List.set_cons_zero, List.set_cons_succ, if_true, if_false, ite_true, ite_false, and_self, and_true, true_and, reduceCtorEq, Bool.not_true, Bool.not_false, decide_true, decide_false, maxLen, f1, dearer_no h ho, tk_same, suf_ret, ea_given]
end K56
end

section
set_option linter.all false
set_option exponentiation.threshold 100000
set_option maxRecDepth 100000
set_option maxHeartbeats 1000000
namespace K56
open PySem L2 DI
open PyProof.Rows hiding St
open DI.Ev
variable {c d : Int} {y : D} {m : MS}
def ltAt (A B : List Step) (j : Int) : Bool := ltq (rq A j) (rq B j)
def bodyLs : List S := match ir_less_at with | .for_ _ _ b :: _ => b | _ => []
theorem la_eq : ir_less_at = [.for_ (.var 2) (.seq (.lcomp (.idx (.var 3) (.con (.int 0))) (.var 3) (.seq (.lst [.star (.meth 0 "steps" (.var 0) [] []), .star (.meth 0 "steps" (.var 1) [] [])])) [])) bodyLs, .ret (.con .non)] := rfl
theorem la_loop {A B : List Step} (hA : RO A) (hB : RO B) {x3 : Option SV} : ∀ (S : List Step) (x2 : Option SV), (∀ p ∈ S, OkP p) →
    (∃ p ∈ S, ltAt A B p.1 = true ∧ forX (forF g_less_at (.var 2) bodyLs) (S.map fun p => raq (uq p.1)) [some (.sh (rul A)), some (.sh (rul B)), x2, x3] m = .ret (raq (uq p.1)) m) ∨
    ((∀ p ∈ S, ltAt A B p.1 = false) ∧ ∃ x2', forX (forF g_less_at (.var 2) bodyLs) (S.map fun p => raq (uq p.1)) [some (.sh (rul A)), some (.sh (rul B)), x2, x3] m = .nx [some (.sh (rul A)), some (.sh (rul B)), x2', x3] m)
  | [], x2, _ => .inr ⟨fun p hp => absurd hp (by simp), x2, rfl⟩
  | p :: S, x2, h => by
    have hp := h p (List.mem_cons_self ..)
    obtain ⟨ea, oa⟩ := hA.has p.1 hp.r.1
    obtain ⟨eb, ob⟩ := hB.has p.1 hp.r.1
    have hn : Nu (raq (uq p.1)) (uq p.1).1 (uq p.1).2 := nu_rat (uq_nf _)
    have ra : ∀ m, m_Rule_rate [rul A, raq (uq p.1)] m = .ok (raq (rq A p.1)) m := fun m => rate_ok hA.p hA.len hp.r hn ea
    have rb : ∀ m, m_Rule_rate [rul B, raq (uq p.1)] m = .ok (raq (rq B p.1)) m := fun m => rate_ok hB.p hB.len hp.r hn eb
    have mo : ∀ R m, methD g_less_at 1 "rate" (rul R) m = some m_Rule_rate := fun R m => bx_same (fs := []) (me := [[(1, m_Rule_steps)], [(1, m_Rule_rate)]]) rfl rfl nm_rate
    have cl : ∀ m, cmpD g_less_at .lt (raq (rq A p.1)) (raq (rq B p.1)) m = .ok (.bl (ltAt A B p.1)) m := fun m => cmp_ltR (fs := []) (me := [[(1, m_Rule_steps)], [(1, m_Rule_rate)]]) _ (ch_rat _ _) (oa.b1.sm (by decide)) (oa.b2.sm (by decide)) (ob.b1.sm (by decide)) (ob.b2.sm (by decide))
    have t : asgT (.var 2) (raq (uq p.1)) [some (.sh (rul A)), some (.sh (rul B)), x2, x3] = some [some (.sh (rul A)), some (.sh (rul B)), some (.sh (raq (uq p.1))), x3] := rfl
    cases hz : ltAt A B p.1 with
    | true =>
      refine .inl ⟨p, List.mem_cons_self .., hz, ?_⟩
      rw [List.map_cons, forX_cons, forF_ap _ _ _ t]
      rw [hz] at cl
      unfold bodyLs ir_less_at
      simp only [DI.Ev.ss_nil, DI.Ev.ss_cons, DI.Ev.st_try, DI.Ev.ee_0, DI.Ev.ee_1, DI.Ev.ee_2, DI.Ev.ee_3, DI.Ev.ee_4, DI.Ev.ee_5, DI.Ev.ee_6, DI.Ev.ee_7, DI.Ev.ee_8, DI.Ev.ee_9, DI.Ev.ee_10, DI.Ev.ee_11, DI.Ev.ee_12, DI.Ev.ee_13, DI.Ev.ee_14, DI.Ev.ee_15, DI.Ev.ee_16, DI.Ev.ee_17, DI.Ev.ee_18, DI.Ev.ee_19, DI.Ev.ee_20, DI.Ev.ee_21, DI.Ev.ee_22, DI.Ev.ee_23, DI.Ev.ee_24, DI.Ev.ee_25, DI.Ev.ee_26, DI.Ev.ee_27, DI.Ev.ee_28, DI.Ev.ee_29, DI.Ev.ee_30, DI.Ev.es_0, DI.Ev.es_1, DI.Ev.eo_0, DI.Ev.eo_1, DI.Ev.ec_0, DI.Ev.ec_1, DI.Ev.ei_0, DI.Ev.ei_1, DI.Ev.ei_2, DI.Ev.ei_3, DI.Ev.ei_4, DI.Ev.ei_5, DI.Ev.ei_6, DI.Ev.st_0, DI.Ev.st_1, DI.Ev.st_2, DI.Ev.st_3, DI.Ev.st_4, DI.Ev.st_5, DI.Ev.st_6, DI.Ev.st_7, DI.Ev.st_8, DI.Ev.st_9, DI.Ev.st_10, DI.Ev.st_11, DI.Ev.st_12, DI.Ev.st_13, DI.Ev.st_14, DI.Ev.st_17, DI.Ev.st_18, DI.Ev.st_19, DI.Ev.st_20, evH, DI.Ev.compX_nil, DI.Ev.compX_cons, DI.Ev.noX_ok, ↓reduceIte, DI.T.slots, DI.T.slotss, DI.wipeS, DI.Ev.bind_ok, DI.Ev.bind_exc, DI.Ev.out_ok, DI.Ev.out_exc, DI.Ev.seq_nx, DI.Ev.seq_ret, DI.Ev.seq_exc, DI.Ev.seq_brk, DI.Ev.seq_ct, DI.Ev.rnd_nx, DI.Ev.rnd_ct, DI.Ev.rnd_brk, DI.Ev.rnd_ret, DI.Ev.rnd_exc, DI.Ev.tr_nx, DI.Ev.tr_ret, DI.Ev.tr_exc, DI.Ev.fin_ret, DI.Ev.fin_nx, DI.Ev.fin_exc, DI.Ev.st_for, DI.Ev.forF_eq, DI.Ev.e_lcomp, DI.Ev.e_dcomp, DI.Ev.compF_eq, DI.Ev.compG_eq, DI.Ev.forX_cons, DI.Ev.forX_nil, DI.Ev.evF_eq, DI.Ev.nxO_some, DI.Ev.asg_var, DI.Ev.asg_tup, DI.Ev.asg_lst, DI.Ev.asgs_nil, DI.Ev.asgs_cons, DI.Ev.obind, DI.Ev.lift_some, DI.Ev.call_some, DI.Ev.bin_add, DI.Ev.bin_sub, DI.Ev.negD_int, DI.Ev.cmp_lt, DI.Ev.cmp_le, DI.Ev.cmp_gt, DI.Ev.cmp_ge, DI.Ev.cmp_eqI, DI.Ev.cmp_neI, DI.Ev.cmp_eqB, DI.Ev.cmp_neB, DI.Ev.cmp_eqT, splD, List.length_cons, List.length_nil, Nat.reduceAdd, Nat.reduceSub, Nat.reduceLeDiff, Nat.reduceLT, Nat.le_refl, List.cons_append, List.nil_append, List.append_nil, List.map_cons, List.map_nil, List.replicate, List.getElem?_cons_zero, List.getElem?_cons_succ, List.getElem?_nil, List.set_cons_zero, List.set_cons_succ, if_true, if_false, ite_true, ite_false, and_self, and_true, true_and, reduceCtorEq, Bool.not_true, Bool.not_false, decide_true, decide_false, maxLen, mo, ra, rb, cl]
    | false =>
      have eb : evSs g_less_at bodyLs [some (.sh (rul A)), some (.sh (rul B)), some (.sh (raq (uq p.1))), x3] m = .nx [some (.sh (rul A)), some (.sh (rul B)), some (.sh (raq (uq p.1))), x3] m := by
        rw [hz] at cl
        unfold bodyLs ir_less_at
        simp only [DI.Ev.ss_nil, DI.Ev.ss_cons, DI.Ev.st_try, DI.Ev.ee_0, DI.Ev.ee_1, DI.Ev.ee_2, DI.Ev.ee_3, DI.Ev.ee_4, DI.Ev.ee_5, DI.Ev.ee_6, DI.Ev.ee_7, DI.Ev.ee_8, DI.Ev.ee_9, DI.Ev.ee_10, DI.Ev.ee_11, DI.Ev.ee_12, DI.Ev.ee_13, DI.Ev.ee_14, DI.Ev.ee_15, DI.Ev.ee_16, DI.Ev.ee_17, DI.Ev.ee_18, DI.Ev.ee_19, DI.Ev.ee_20, DI.Ev.ee_21, DI.Ev.ee_22, DI.Ev.ee_23, DI.Ev.ee_24, DI.Ev.ee_25, DI.Ev.ee_26, DI.Ev.ee_27, DI.Ev.ee_28, DI.Ev.ee_29, DI.Ev.ee_30, DI.Ev.es_0, DI.Ev.es_1, DI.Ev.eo_0, DI.Ev.eo_1, DI.Ev.ec_0, DI.Ev.ec_1, DI.Ev.ei_0, DI.Ev.ei_1, DI.Ev.ei_2, DI.Ev.ei_3, DI.Ev.ei_4, DI.Ev.ei_5, DI.Ev.ei_6, DI.Ev.st_0, DI.Ev.st_1, DI.Ev.st_2, DI.Ev.st_3, DI.Ev.st_4, DI.Ev.st_5, DI.Ev.st_6, DI.Ev.st_7, DI.Ev.st_8, DI.Ev.st_9, DI.Ev.st_10, DI.Ev.st_11, DI.Ev.st_12, DI.Ev.st_13, DI.Ev.st_14, DI.Ev.st_17, DI.Ev.st_18, DI.Ev.st_19, DI.Ev.st_20, evH, DI.Ev.compX_nil, DI.Ev.compX_cons, DI.Ev.noX_ok, ↓reduceIte, DI.T.slots, DI.T.slotss, DI.wipeS, DI.Ev.bind_ok, DI.Ev.bind_exc, DI.Ev.out_ok, DI.Ev.out_exc, DI.Ev.seq_nx, DI.Ev.seq_ret, DI.Ev.seq_exc, DI.Ev.seq_brk, DI.Ev.seq_ct, DI.Ev.rnd_nx, DI.Ev.rnd_ct, DI.Ev.rnd_brk, DI.Ev.rnd_ret, DI.Ev.rnd_exc, DI.Ev.tr_nx, DI.Ev.tr_ret, DI.Ev.tr_exc, DI.Ev.fin_ret, DI.Ev.fin_nx, DI.Ev.fin_exc, DI.Ev.st_for, DI.Ev.forF_eq, DI.Ev.e_lcomp, DI.Ev.e_dcomp, DI.Ev.compF_eq, DI.Ev.compG_eq, DI.Ev.forX_cons, DI.Ev.forX_nil, DI.Ev.evF_eq, DI.Ev.nxO_some, DI.Ev.asg_var, DI.Ev.asg_tup, DI.Ev.asg_lst, DI.Ev.asgs_nil, DI.Ev.asgs_cons, DI.Ev.obind, DI.Ev.lift_some, DI.Ev.call_some, DI.Ev.bin_add, DI.Ev.bin_sub, DI.Ev.negD_int, DI.Ev.cmp_lt, DI.Ev.cmp_le, DI.Ev.cmp_gt, DI.Ev.cmp_ge, DI.Ev.cmp_eqI, DI.Ev.cmp_neI, DI.Ev.cmp_eqB, DI.Ev.cmp_neB, DI.Ev.cmp_eqT, splD, List.length_cons, List.length_nil, Nat.reduceAdd, Nat.reduceSub, Nat.reduceLeDiff, Nat.reduceLT, Nat.le_refl, List.cons_append, List.nil_append, List.append_nil, List.map_cons, List.map_nil, List.replicate, List.getElem?_cons_zero, List.getElem?_cons_succ, List.getElem?_nil, List.set_cons_zero, List.set_cons_succ, if_true, if_false, ite_true, ite_false, and_self, and_true, true_and, reduceCtorEq, Bool.not_true, Bool.not_false, decide_true, decide_false, maxLen, mo, ra, rb, cl]
      rw [List.map_cons, forX_cons, forF_ap _ _ _ t, eb, rnd_nx]
      rcases la_loop hA hB S (some (.sh (raq (uq p.1)))) (fun q hq => h q (List.mem_cons_of_mem _ hq)) with ⟨q, hq, h1, h2⟩ | ⟨h1, x2', h2⟩
      · exact .inl ⟨q, List.mem_cons_of_mem _ hq, h1, h2⟩
      · refine .inr ⟨fun q hq => ?_, x2', h2⟩
        rcases List.mem_cons.mp hq with rfl | hq
        · exact hz
        · exact h1 q hq
theorem less_at_ok {A B : List Step} (hA : RO A) (hB : RO B) (m : MS) :
    (∃ p ∈ A ++ B, ltAt A B p.1 = true ∧ m_less_at [rul A, rul B] m = .ok (raq (uq p.1)) m) ∨ ((∀ p ∈ A ++ B, ltAt A B p.1 = false) ∧ m_less_at [rul A, rul B] m = .ok .non m) := by
  have mo : ∀ R m, methD g_less_at 0 "steps" (rul R) m = some m_Rule_steps := fun R m => bx_same (fs := []) (me := [[(1, m_Rule_steps)], [(1, m_Rule_rate)]]) rfl rfl nm_steps
  have hl : (A.map pst40 ++ B.map pst40).length ≤ 100000 := by rw [List.length_append, List.length_map, List.length_map]; have := hA.len; have := hB.len; omega
  have hm : A.map pst40 ++ B.map pst40 = (A ++ B).map pst40 := by rw [List.map_append]
  have hO : ∀ p ∈ A ++ B, OkP p := fun p hp => (List.mem_append.mp hp).elim (hA.p p) (hB.p p)
  have pre : ∀ (m : MS) (x2 : Option SV) (r : D), (forX (forF g_less_at (.var 2) bodyLs) ((A ++ B).map fun p => raq (uq p.1)) [some (.sh (rul A)), some (.sh (rul B)), none, none] m).seq (fun σ m => evSs g_less_at [.ret (.con .non)] σ m) = .ret r m → m_less_at [rul A, rul B] m = .ok r m := fun m x2 r h => by
    unfold m_less_at
    rw [la_eq]
    simp only [evF_eq, List.length_cons, List.length_nil, Nat.reduceAdd, if_true, List.map_cons, List.map_nil, Nat.reduceSub, List.replicate, List.cons_append, List.nil_append]
    rw [ss_cons]
    have e : evE g_less_at (.lcomp (.idx (.var 3) (.con (.int 0))) (.var 3) (.seq (.lst [.star (.meth 0 "steps" (.var 0) [] []), .star (.meth 0 "steps" (.var 1) [] [])])) []) [some (.sh (rul A)), some (.sh (rul B)), none, none] m = .ok (.lst ((A ++ B).map fun p => raq (uq p.1))) m := by
      simp only [DI.Ev.ss_nil, DI.Ev.ss_cons, DI.Ev.st_try, DI.Ev.ee_0, DI.Ev.ee_1, DI.Ev.ee_2, DI.Ev.ee_3, DI.Ev.ee_4, DI.Ev.ee_5, DI.Ev.ee_6, DI.Ev.ee_7, DI.Ev.ee_8, DI.Ev.ee_9, DI.Ev.ee_10, DI.Ev.ee_11, DI.Ev.ee_12, DI.Ev.ee_13, DI.Ev.ee_14, DI.Ev.ee_15, DI.Ev.ee_16, DI.Ev.ee_17, DI.Ev.ee_18, DI.Ev.ee_19, DI.Ev.ee_20, DI.Ev.ee_21, DI.Ev.ee_22, DI.Ev.ee_23, DI.Ev.ee_24, DI.Ev.ee_25, DI.Ev.ee_26, DI.Ev.ee_27, DI.Ev.ee_28, DI.Ev.ee_29, DI.Ev.ee_30, DI.Ev.es_0, DI.Ev.es_1, DI.Ev.eo_0, DI.Ev.eo_1, DI.Ev.ec_0, DI.Ev.ec_1, DI.Ev.ei_0, DI.Ev.ei_1, DI.Ev.ei_2, DI.Ev.ei_3, DI.Ev.ei_4, DI.Ev.ei_5, DI.Ev.ei_6, DI.Ev.st_0, DI.Ev.st_1, DI.Ev.st_2, DI.Ev.st_3, DI.Ev.st_4, DI.Ev.st_5, DI.Ev.st_6, DI.Ev.st_7, DI.Ev.st_8, DI.Ev.st_9, DI.Ev.st_10, DI.Ev.st_11, DI.Ev.st_12, DI.Ev.st_13, DI.Ev.st_14, DI.Ev.st_17, DI.Ev.st_18, DI.Ev.st_19, DI.Ev.st_20, evH, DI.Ev.compX_nil, DI.Ev.compX_cons, DI.Ev.noX_ok, ↓reduceIte, DI.T.slots, DI.T.slotss, DI.wipeS, DI.Ev.bind_ok, DI.Ev.bind_exc, DI.Ev.out_ok, DI.Ev.out_exc, DI.Ev.seq_nx, DI.Ev.seq_ret, DI.Ev.seq_exc, DI.Ev.seq_brk, DI.Ev.seq_ct, DI.Ev.rnd_nx, DI.Ev.rnd_ct, DI.Ev.rnd_brk, DI.Ev.rnd_ret, DI.Ev.rnd_exc, DI.Ev.tr_nx, DI.Ev.tr_ret, DI.Ev.tr_exc, DI.Ev.fin_ret, DI.Ev.fin_nx, DI.Ev.fin_exc, DI.Ev.st_for, DI.Ev.forF_eq, DI.Ev.e_lcomp, DI.Ev.e_dcomp, DI.Ev.compF_eq, DI.Ev.compG_eq, DI.Ev.forX_cons, DI.Ev.forX_nil, DI.Ev.evF_eq, DI.Ev.nxO_some, DI.Ev.asg_var, DI.Ev.asg_tup, DI.Ev.asg_lst, DI.Ev.asgs_nil, DI.Ev.asgs_cons, DI.Ev.obind, DI.Ev.lift_some, DI.Ev.call_some, DI.Ev.bin_add, DI.Ev.bin_sub, DI.Ev.negD_int, DI.Ev.cmp_lt, DI.Ev.cmp_le, DI.Ev.cmp_gt, DI.Ev.cmp_ge, DI.Ev.cmp_eqI, DI.Ev.cmp_neI, DI.Ev.cmp_eqB, DI.Ev.cmp_neB, DI.Ev.cmp_eqT, splD, List.length_cons, List.length_nil, Nat.reduceAdd, Nat.reduceSub, Nat.reduceLeDiff, Nat.reduceLT, Nat.le_refl, List.cons_append, List.nil_append, List.append_nil, List.map_cons, List.map_nil, List.replicate, List.getElem?_cons_zero, List.getElem?_cons_succ, List.getElem?_nil, List.set_cons_zero, List.set_cons_succ, if_true, if_false, ite_true, ite_false, and_self, and_true, true_and, reduceCtorEq, Bool.not_true, Bool.not_false, decide_true, decide_false, maxLen, mo, steps_ok, inner_lst, it_lst, hl]
      rw [hm, comp_all (fun p => raq (uq p.1)) (fun p hp => by
        unfold pst40
        simp only [DI.Ev.ss_nil, DI.Ev.ss_cons, DI.Ev.st_try, DI.Ev.ee_0, DI.Ev.ee_1, DI.Ev.ee_2, DI.Ev.ee_3, DI.Ev.ee_4, DI.Ev.ee_5, DI.Ev.ee_6, DI.Ev.ee_7, DI.Ev.ee_8, DI.Ev.ee_9, DI.Ev.ee_10, DI.Ev.ee_11, DI.Ev.ee_12, DI.Ev.ee_13, DI.Ev.ee_14, DI.Ev.ee_15, DI.Ev.ee_16, DI.Ev.ee_17, DI.Ev.ee_18, DI.Ev.ee_19, DI.Ev.ee_20, DI.Ev.ee_21, DI.Ev.ee_22, DI.Ev.ee_23, DI.Ev.ee_24, DI.Ev.ee_25, DI.Ev.ee_26, DI.Ev.ee_27, DI.Ev.ee_28, DI.Ev.ee_29, DI.Ev.ee_30, DI.Ev.es_0, DI.Ev.es_1, DI.Ev.eo_0, DI.Ev.eo_1, DI.Ev.ec_0, DI.Ev.ec_1, DI.Ev.ei_0, DI.Ev.ei_1, DI.Ev.ei_2, DI.Ev.ei_3, DI.Ev.ei_4, DI.Ev.ei_5, DI.Ev.ei_6, DI.Ev.st_0, DI.Ev.st_1, DI.Ev.st_2, DI.Ev.st_3, DI.Ev.st_4, DI.Ev.st_5, DI.Ev.st_6, DI.Ev.st_7, DI.Ev.st_8, DI.Ev.st_9, DI.Ev.st_10, DI.Ev.st_11, DI.Ev.st_12, DI.Ev.st_13, DI.Ev.st_14, DI.Ev.st_17, DI.Ev.st_18, DI.Ev.st_19, DI.Ev.st_20, evH, DI.Ev.compX_nil, DI.Ev.compX_cons, DI.Ev.noX_ok, ↓reduceIte, DI.T.slots, DI.T.slotss, DI.wipeS, DI.Ev.bind_ok, DI.Ev.bind_exc, DI.Ev.out_ok, DI.Ev.out_exc, DI.Ev.seq_nx, DI.Ev.seq_ret, DI.Ev.seq_exc, DI.Ev.seq_brk, DI.Ev.seq_ct, DI.Ev.rnd_nx, DI.Ev.rnd_ct, DI.Ev.rnd_brk, DI.Ev.rnd_ret, DI.Ev.rnd_exc, DI.Ev.tr_nx, DI.Ev.tr_ret, DI.Ev.tr_exc, DI.Ev.fin_ret, DI.Ev.fin_nx, DI.Ev.fin_exc, DI.Ev.st_for, DI.Ev.forF_eq, DI.Ev.e_lcomp, DI.Ev.e_dcomp, DI.Ev.compF_eq, DI.Ev.compG_eq, DI.Ev.forX_cons, DI.Ev.forX_nil, DI.Ev.evF_eq, DI.Ev.nxO_some, DI.Ev.asg_var, DI.Ev.asg_tup, DI.Ev.asg_lst, DI.Ev.asgs_nil, DI.Ev.asgs_cons, DI.Ev.obind, DI.Ev.lift_some, DI.Ev.call_some, DI.Ev.bin_add, DI.Ev.bin_sub, DI.Ev.negD_int, DI.Ev.cmp_lt, DI.Ev.cmp_le, DI.Ev.cmp_gt, DI.Ev.cmp_ge, DI.Ev.cmp_eqI, DI.Ev.cmp_neI, DI.Ev.cmp_eqB, DI.Ev.cmp_neB, DI.Ev.cmp_eqT, splD, List.length_cons, List.length_nil, Nat.reduceAdd, Nat.reduceSub, Nat.reduceLeDiff, Nat.reduceLT, Nat.le_refl, List.cons_append, List.nil_append, List.append_nil, List.map_cons, List.map_nil, List.replicate, List.getElem?_cons_zero, List.getElem?_cons_succ, List.getElem?_nil, List.set_cons_zero, List.set_cons_succ, if_true, if_false, ite_true, ite_false, and_self, and_true, true_and, reduceCtorEq, Bool.not_true, Bool.not_false, decide_true, decide_false, maxLen, idx_tup, atI_0])]
      simp only [DI.Ev.ss_nil, DI.Ev.ss_cons, DI.Ev.st_try, DI.Ev.ee_0, DI.Ev.ee_1, DI.Ev.ee_2, DI.Ev.ee_3, DI.Ev.ee_4, DI.Ev.ee_5, DI.Ev.ee_6, DI.Ev.ee_7, DI.Ev.ee_8, DI.Ev.ee_9, DI.Ev.ee_10, DI.Ev.ee_11, DI.Ev.ee_12, DI.Ev.ee_13, DI.Ev.ee_14, DI.Ev.ee_15, DI.Ev.ee_16, DI.Ev.ee_17, DI.Ev.ee_18, DI.Ev.ee_19, DI.Ev.ee_20, DI.Ev.ee_21, DI.Ev.ee_22, DI.Ev.ee_23, DI.Ev.ee_24, DI.Ev.ee_25, DI.Ev.ee_26, DI.Ev.ee_27, DI.Ev.ee_28, DI.Ev.ee_29, DI.Ev.ee_30, DI.Ev.es_0, DI.Ev.es_1, DI.Ev.eo_0, DI.Ev.eo_1, DI.Ev.ec_0, DI.Ev.ec_1, DI.Ev.ei_0, DI.Ev.ei_1, DI.Ev.ei_2, DI.Ev.ei_3, DI.Ev.ei_4, DI.Ev.ei_5, DI.Ev.ei_6, DI.Ev.st_0, DI.Ev.st_1, DI.Ev.st_2, DI.Ev.st_3, DI.Ev.st_4, DI.Ev.st_5, DI.Ev.st_6, DI.Ev.st_7, DI.Ev.st_8, DI.Ev.st_9, DI.Ev.st_10, DI.Ev.st_11, DI.Ev.st_12, DI.Ev.st_13, DI.Ev.st_14, DI.Ev.st_17, DI.Ev.st_18, DI.Ev.st_19, DI.Ev.st_20, evH, DI.Ev.compX_nil, DI.Ev.compX_cons, DI.Ev.noX_ok, ↓reduceIte, DI.T.slots, DI.T.slotss, DI.wipeS, DI.Ev.bind_ok, DI.Ev.bind_exc, DI.Ev.out_ok, DI.Ev.out_exc, DI.Ev.seq_nx, DI.Ev.seq_ret, DI.Ev.seq_exc, DI.Ev.seq_brk, DI.Ev.seq_ct, DI.Ev.rnd_nx, DI.Ev.rnd_ct, DI.Ev.rnd_brk, DI.Ev.rnd_ret, DI.Ev.rnd_exc, DI.Ev.tr_nx, DI.Ev.tr_ret, DI.Ev.tr_exc, DI.Ev.fin_ret, DI.Ev.fin_nx, DI.Ev.fin_exc, DI.Ev.st_for, DI.Ev.forF_eq, DI.Ev.e_lcomp, DI.Ev.e_dcomp, DI.Ev.compF_eq, DI.Ev.compG_eq, DI.Ev.forX_cons, DI.Ev.forX_nil, DI.Ev.evF_eq, DI.Ev.nxO_some, DI.Ev.asg_var, DI.Ev.asg_tup, DI.Ev.asg_lst, DI.Ev.asgs_nil, DI.Ev.asgs_cons, DI.Ev.obind, DI.Ev.lift_some, DI.Ev.call_some, DI.Ev.bin_add, DI.Ev.bin_sub, DI.Ev.negD_int, DI.Ev.cmp_lt, DI.Ev.cmp_le, DI.Ev.cmp_gt, DI.Ev.cmp_ge, DI.Ev.cmp_eqI, DI.Ev.cmp_neI, DI.Ev.cmp_eqB, DI.Ev.cmp_neB, DI.Ev.cmp_eqT, splD, List.length_cons, List.length_nil, Nat.reduceAdd, Nat.reduceSub, Nat.reduceLeDiff, Nat.reduceLT, Nat.le_refl, List.cons_append, List.nil_append, List.append_nil, List.map_cons, List.map_nil, List.replicate, List.getElem?_cons_zero, List.getElem?_cons_succ, List.getElem?_nil, List.set_cons_zero, List.set_cons_succ, if_true, if_false, ite_true, ite_false, and_self, and_true, true_and, reduceCtorEq, Bool.not_true, Bool.not_false, decide_true, decide_false, maxLen]
    have e2 : evS g_less_at (.for_ (.var 2) (.seq (.lcomp (.idx (.var 3) (.con (.int 0))) (.var 3) (.seq (.lst [.star (.meth 0 "steps" (.var 0) [] []), .star (.meth 0 "steps" (.var 1) [] [])])) [])) bodyLs) [some (.sh (rul A)), some (.sh (rul B)), none, none] m = forX (forF g_less_at (.var 2) bodyLs) ((A ++ B).map fun p => raq (uq p.1)) [some (.sh (rul A)), some (.sh (rul B)), none, none] m := by
      rw [st_for]
      simp only [ei_0]
      rw [e]
      simp only [DI.Ev.ss_nil, DI.Ev.ss_cons, DI.Ev.st_try, DI.Ev.ee_0, DI.Ev.ee_1, DI.Ev.ee_2, DI.Ev.ee_3, DI.Ev.ee_4, DI.Ev.ee_5, DI.Ev.ee_6, DI.Ev.ee_7, DI.Ev.ee_8, DI.Ev.ee_9, DI.Ev.ee_10, DI.Ev.ee_11, DI.Ev.ee_12, DI.Ev.ee_13, DI.Ev.ee_14, DI.Ev.ee_15, DI.Ev.ee_16, DI.Ev.ee_17, DI.Ev.ee_18, DI.Ev.ee_19, DI.Ev.ee_20, DI.Ev.ee_21, DI.Ev.ee_22, DI.Ev.ee_23, DI.Ev.ee_24, DI.Ev.ee_25, DI.Ev.ee_26, DI.Ev.ee_27, DI.Ev.ee_28, DI.Ev.ee_29, DI.Ev.ee_30, DI.Ev.es_0, DI.Ev.es_1, DI.Ev.eo_0, DI.Ev.eo_1, DI.Ev.ec_0, DI.Ev.ec_1, DI.Ev.ei_0, DI.Ev.ei_1, DI.Ev.ei_2, DI.Ev.ei_3, DI.Ev.ei_4, DI.Ev.ei_5, DI.Ev.ei_6, DI.Ev.st_0, DI.Ev.st_1, DI.Ev.st_2, DI.Ev.st_3, DI.Ev.st_4, DI.Ev.st_5, DI.Ev.st_6, DI.Ev.st_7, DI.Ev.st_8, DI.Ev.st_9, DI.Ev.st_10, DI.Ev.st_11, DI.Ev.st_12, DI.Ev.st_13, DI.Ev.st_14, DI.Ev.st_17, DI.Ev.st_18, DI.Ev.st_19, DI.Ev.st_20, evH, DI.Ev.compX_nil, DI.Ev.compX_cons, DI.Ev.noX_ok, ↓reduceIte, DI.T.slots, DI.T.slotss, DI.wipeS, DI.Ev.bind_ok, DI.Ev.bind_exc, DI.Ev.out_ok, DI.Ev.out_exc, DI.Ev.seq_nx, DI.Ev.seq_ret, DI.Ev.seq_exc, DI.Ev.seq_brk, DI.Ev.seq_ct, DI.Ev.rnd_nx, DI.Ev.rnd_ct, DI.Ev.rnd_brk, DI.Ev.rnd_ret, DI.Ev.rnd_exc, DI.Ev.tr_nx, DI.Ev.tr_ret, DI.Ev.tr_exc, DI.Ev.fin_ret, DI.Ev.fin_nx, DI.Ev.fin_exc, DI.Ev.st_for, DI.Ev.forF_eq, DI.Ev.e_lcomp, DI.Ev.e_dcomp, DI.Ev.compF_eq, DI.Ev.compG_eq, DI.Ev.forX_cons, DI.Ev.forX_nil, DI.Ev.evF_eq, DI.Ev.nxO_some, DI.Ev.asg_var, DI.Ev.asg_tup, DI.Ev.asg_lst, DI.Ev.asgs_nil, DI.Ev.asgs_cons, DI.Ev.obind, DI.Ev.lift_some, DI.Ev.call_some, DI.Ev.bin_add, DI.Ev.bin_sub, DI.Ev.negD_int, DI.Ev.cmp_lt, DI.Ev.cmp_le, DI.Ev.cmp_gt, DI.Ev.cmp_ge, DI.Ev.cmp_eqI, DI.Ev.cmp_neI, DI.Ev.cmp_eqB, DI.Ev.cmp_neB, DI.Ev.cmp_eqT, splD, List.length_cons, List.length_nil, Nat.reduceAdd, Nat.reduceSub, Nat.reduceLeDiff, Nat.reduceLT, Nat.le_refl, List.cons_append, List.nil_append, List.append_nil, List.map_cons, List.map_nil, List.replicate, List.getElem?_cons_zero, List.getElem?_cons_succ, List.getElem?_nil, List.set_cons_zero, List.set_cons_succ, if_true, if_false, ite_true, ite_false, and_self, and_true, true_and, reduceCtorEq, Bool.not_true, Bool.not_false, decide_true, decide_false, maxLen, it_lst]
    rw [e2, h]
    rfl
  rcases la_loop (m := m) hA hB (x3 := none) (A ++ B) none hO with ⟨p, hp, h1, h2⟩ | ⟨h1, x2', h2⟩
  · exact .inl ⟨p, hp, h1, pre m none _ (by rw [h2]; rfl)⟩
  · exact .inr ⟨h1, pre m none _ (by rw [h2]; rfl)⟩
theorem never_ok {A B : List Step} (hA : RO A) (hB : RO B) (m : MS) :
    (∃ p ∈ B ++ A, ltAt B A p.1 = true ∧ m_never_dearer [rul A, rul B] m = .ok (.bl false) m ∧ m_dearer_at [rul A, rul B] m = .ok (.lst [raq (uq p.1)]) m) ∨ ((∀ p ∈ B ++ A, ltAt B A p.1 = false) ∧ m_never_dearer [rul A, rul B] m = .ok (.bl true) m ∧ m_dearer_at [rul A, rul B] m = .ok .non m) := by
  have f1 : g_never_less.fn = [m_less_at] := rfl
  have f2 : g_never_dearer.fn = [m_never_less] := rfl
  have f3 : g_dearer_at.fn = [m_less_at] := rfl
  rcases less_at_ok hB hA m with ⟨p, hp, h1, h2⟩ | ⟨h1, h2⟩
  · have e1 : m_never_less [rul B, rul A] m = .ok (.bl false) m := by
      unfold m_never_less ir_never_less
      simp only [DI.Ev.ss_nil, DI.Ev.ss_cons, DI.Ev.st_try, DI.Ev.ee_0, DI.Ev.ee_1, DI.Ev.ee_2, DI.Ev.ee_3, DI.Ev.ee_4, DI.Ev.ee_5, DI.Ev.ee_6, DI.Ev.ee_7, DI.Ev.ee_8, DI.Ev.ee_9, DI.Ev.ee_10, DI.Ev.ee_11, DI.Ev.ee_12, DI.Ev.ee_13, DI.Ev.ee_14, DI.Ev.ee_15, DI.Ev.ee_16, DI.Ev.ee_17, DI.Ev.ee_18, DI.Ev.ee_19, DI.Ev.ee_20, DI.Ev.ee_21, DI.Ev.ee_22, DI.Ev.ee_23, DI.Ev.ee_24, DI.Ev.ee_25, DI.Ev.ee_26, DI.Ev.ee_27, DI.Ev.ee_28, DI.Ev.ee_29, DI.Ev.ee_30, DI.Ev.es_0, DI.Ev.es_1, DI.Ev.eo_0, DI.Ev.eo_1, DI.Ev.ec_0, DI.Ev.ec_1, DI.Ev.ei_0, DI.Ev.ei_1, DI.Ev.ei_2, DI.Ev.ei_3, DI.Ev.ei_4, DI.Ev.ei_5, DI.Ev.ei_6, DI.Ev.st_0, DI.Ev.st_1, DI.Ev.st_2, DI.Ev.st_3, DI.Ev.st_4, DI.Ev.st_5, DI.Ev.st_6, DI.Ev.st_7, DI.Ev.st_8, DI.Ev.st_9, DI.Ev.st_10, DI.Ev.st_11, DI.Ev.st_12, DI.Ev.st_13, DI.Ev.st_14, DI.Ev.st_17, DI.Ev.st_18, DI.Ev.st_19, DI.Ev.st_20, evH, DI.Ev.compX_nil, DI.Ev.compX_cons, DI.Ev.noX_ok, ↓reduceIte, DI.T.slots, DI.T.slotss, DI.wipeS, DI.Ev.bind_ok, DI.Ev.bind_exc, DI.Ev.out_ok, DI.Ev.out_exc, DI.Ev.seq_nx, DI.Ev.seq_ret, DI.Ev.seq_exc, DI.Ev.seq_brk, DI.Ev.seq_ct, DI.Ev.rnd_nx, DI.Ev.rnd_ct, DI.Ev.rnd_brk, DI.Ev.rnd_ret, DI.Ev.rnd_exc, DI.Ev.tr_nx, DI.Ev.tr_ret, DI.Ev.tr_exc, DI.Ev.fin_ret, DI.Ev.fin_nx, DI.Ev.fin_exc, DI.Ev.st_for, DI.Ev.forF_eq, DI.Ev.e_lcomp, DI.Ev.e_dcomp, DI.Ev.compF_eq, DI.Ev.compG_eq, DI.Ev.forX_cons, DI.Ev.forX_nil, DI.Ev.evF_eq, DI.Ev.nxO_some, DI.Ev.asg_var, DI.Ev.asg_tup, DI.Ev.asg_lst, DI.Ev.asgs_nil, DI.Ev.asgs_cons, DI.Ev.obind, DI.Ev.lift_some, DI.Ev.call_some, DI.Ev.bin_add, DI.Ev.bin_sub, DI.Ev.negD_int, DI.Ev.cmp_lt, DI.Ev.cmp_le, DI.Ev.cmp_gt, DI.Ev.cmp_ge, DI.Ev.cmp_eqI, DI.Ev.cmp_neI, DI.Ev.cmp_eqB, DI.Ev.cmp_neB, DI.Ev.cmp_eqT, splD, List.length_cons, List.length_nil, Nat.reduceAdd, Nat.reduceSub, Nat.reduceLeDiff, Nat.reduceLT, Nat.le_refl, List.cons_append, List.nil_append, List.append_nil, List.map_cons, List.map_nil, List.replicate, List.getElem?_cons_zero, List.getElem?_cons_succ, List.getElem?_nil, List.set_cons_zero, List.set_cons_succ, if_true, if_false, ite_true, ite_false, and_self, and_true, true_and, reduceCtorEq, Bool.not_true, Bool.not_false, decide_true, decide_false, maxLen, f1, h2, raq, rat]
    refine .inl ⟨p, hp, h1, ?_, ?_⟩
    · unfold m_never_dearer ir_never_dearer
      simp only [DI.Ev.ss_nil, DI.Ev.ss_cons, DI.Ev.st_try, DI.Ev.ee_0, DI.Ev.ee_1, DI.Ev.ee_2, DI.Ev.ee_3, DI.Ev.ee_4, DI.Ev.ee_5, DI.Ev.ee_6, DI.Ev.ee_7, DI.Ev.ee_8, DI.Ev.ee_9, DI.Ev.ee_10, DI.Ev.ee_11, DI.Ev.ee_12, DI.Ev.ee_13, DI.Ev.ee_14, DI.Ev.ee_15, DI.Ev.ee_16, DI.Ev.ee_17, DI.Ev.ee_18, DI.Ev.ee_19, DI.Ev.ee_20, DI.Ev.ee_21, DI.Ev.ee_22, DI.Ev.ee_23, DI.Ev.ee_24, DI.Ev.ee_25, DI.Ev.ee_26, DI.Ev.ee_27, DI.Ev.ee_28, DI.Ev.ee_29, DI.Ev.ee_30, DI.Ev.es_0, DI.Ev.es_1, DI.Ev.eo_0, DI.Ev.eo_1, DI.Ev.ec_0, DI.Ev.ec_1, DI.Ev.ei_0, DI.Ev.ei_1, DI.Ev.ei_2, DI.Ev.ei_3, DI.Ev.ei_4, DI.Ev.ei_5, DI.Ev.ei_6, DI.Ev.st_0, DI.Ev.st_1, DI.Ev.st_2, DI.Ev.st_3, DI.Ev.st_4, DI.Ev.st_5, DI.Ev.st_6, DI.Ev.st_7, DI.Ev.st_8, DI.Ev.st_9, DI.Ev.st_10, DI.Ev.st_11, DI.Ev.st_12, DI.Ev.st_13, DI.Ev.st_14, DI.Ev.st_17, DI.Ev.st_18, DI.Ev.st_19, DI.Ev.st_20, evH, DI.Ev.compX_nil, DI.Ev.compX_cons, DI.Ev.noX_ok, ↓reduceIte, DI.T.slots, DI.T.slotss, DI.wipeS, DI.Ev.bind_ok, DI.Ev.bind_exc, DI.Ev.out_ok, DI.Ev.out_exc, DI.Ev.seq_nx, DI.Ev.seq_ret, DI.Ev.seq_exc, DI.Ev.seq_brk, DI.Ev.seq_ct, DI.Ev.rnd_nx, DI.Ev.rnd_ct, DI.Ev.rnd_brk, DI.Ev.rnd_ret, DI.Ev.rnd_exc, DI.Ev.tr_nx, DI.Ev.tr_ret, DI.Ev.tr_exc, DI.Ev.fin_ret, DI.Ev.fin_nx, DI.Ev.fin_exc, DI.Ev.st_for, DI.Ev.forF_eq, DI.Ev.e_lcomp, DI.Ev.e_dcomp, DI.Ev.compF_eq, DI.Ev.compG_eq, DI.Ev.forX_cons, DI.Ev.forX_nil, DI.Ev.evF_eq, DI.Ev.nxO_some, DI.Ev.asg_var, DI.Ev.asg_tup, DI.Ev.asg_lst, DI.Ev.asgs_nil, DI.Ev.asgs_cons, DI.Ev.obind, DI.Ev.lift_some, DI.Ev.call_some, DI.Ev.bin_add, DI.Ev.bin_sub, DI.Ev.negD_int, DI.Ev.cmp_lt, DI.Ev.cmp_le, DI.Ev.cmp_gt, DI.Ev.cmp_ge, DI.Ev.cmp_eqI, DI.Ev.cmp_neI, DI.Ev.cmp_eqB, DI.Ev.cmp_neB, DI.Ev.cmp_eqT, splD, List.length_cons, List.length_nil, Nat.reduceAdd, Nat.reduceSub, Nat.reduceLeDiff, Nat.reduceLT, Nat.le_refl, List.cons_append, List.nil_append, List.append_nil, List.map_cons, List.map_nil, List.replicate, List.getElem?_cons_zero, List.getElem?_cons_succ, List.getElem?_nil, List.set_cons_zero, List.set_cons_succ, if_true, if_false, ite_true, ite_false, and_self, and_true, true_and, reduceCtorEq, Bool.not_true, Bool.not_false, decide_true, decide_false, maxLen, f2, e1]
    · unfold m_dearer_at ir_dearer_at
      unfold raq rat at *
      simp only [DI.Ev.ss_nil, DI.Ev.ss_cons, DI.Ev.st_try, DI.Ev.ee_0, DI.Ev.ee_1, DI.Ev.ee_2, DI.Ev.ee_3, DI.Ev.ee_4, DI.Ev.ee_5, DI.Ev.ee_6, DI.Ev.ee_7, DI.Ev.ee_8, DI.Ev.ee_9, DI.Ev.ee_10, DI.Ev.ee_11, DI.Ev.ee_12, DI.Ev.ee_13, DI.Ev.ee_14, DI.Ev.ee_15, DI.Ev.ee_16, DI.Ev.ee_17, DI.Ev.ee_18, DI.Ev.ee_19, DI.Ev.ee_20, DI.Ev.ee_21, DI.Ev.ee_22, DI.Ev.ee_23, DI.Ev.ee_24, DI.Ev.ee_25, DI.Ev.ee_26, DI.Ev.ee_27, DI.Ev.ee_28, DI.Ev.ee_29, DI.Ev.ee_30, DI.Ev.es_0, DI.Ev.es_1, DI.Ev.eo_0, DI.Ev.eo_1, DI.Ev.ec_0, DI.Ev.ec_1, DI.Ev.ei_0, DI.Ev.ei_1, DI.Ev.ei_2, DI.Ev.ei_3, DI.Ev.ei_4, DI.Ev.ei_5, DI.Ev.ei_6, DI.Ev.st_0, DI.Ev.st_1, DI.Ev.st_2, DI.Ev.st_3, DI.Ev.st_4, DI.Ev.st_5, DI.Ev.st_6, DI.Ev.st_7, DI.Ev.st_8, DI.Ev.st_9, DI.Ev.st_10, DI.Ev.st_11, DI.Ev.st_12, DI.Ev.st_13, DI.Ev.st_14, DI.Ev.st_17, DI.Ev.st_18, DI.Ev.st_19, DI.Ev.st_20, evH, DI.Ev.compX_nil, DI.Ev.compX_cons, DI.Ev.noX_ok, ↓reduceIte, DI.T.slots, DI.T.slotss, DI.wipeS, DI.Ev.bind_ok, DI.Ev.bind_exc, DI.Ev.out_ok, DI.Ev.out_exc, DI.Ev.seq_nx, DI.Ev.seq_ret, DI.Ev.seq_exc, DI.Ev.seq_brk, DI.Ev.seq_ct, DI.Ev.rnd_nx, DI.Ev.rnd_ct, DI.Ev.rnd_brk, DI.Ev.rnd_ret, DI.Ev.rnd_exc, DI.Ev.tr_nx, DI.Ev.tr_ret, DI.Ev.tr_exc, DI.Ev.fin_ret, DI.Ev.fin_nx, DI.Ev.fin_exc, DI.Ev.st_for, DI.Ev.forF_eq, DI.Ev.e_lcomp, DI.Ev.e_dcomp, DI.Ev.compF_eq, DI.Ev.compG_eq, DI.Ev.forX_cons, DI.Ev.forX_nil, DI.Ev.evF_eq, DI.Ev.nxO_some, DI.Ev.asg_var, DI.Ev.asg_tup, DI.Ev.asg_lst, DI.Ev.asgs_nil, DI.Ev.asgs_cons, DI.Ev.obind, DI.Ev.lift_some, DI.Ev.call_some, DI.Ev.bin_add, DI.Ev.bin_sub, DI.Ev.negD_int, DI.Ev.cmp_lt, DI.Ev.cmp_le, DI.Ev.cmp_gt, DI.Ev.cmp_ge, DI.Ev.cmp_eqI, DI.Ev.cmp_neI, DI.Ev.cmp_eqB, DI.Ev.cmp_neB, DI.Ev.cmp_eqT, splD, List.length_cons, List.length_nil, Nat.reduceAdd, Nat.reduceSub, Nat.reduceLeDiff, Nat.reduceLT, Nat.le_refl, List.cons_append, List.nil_append, List.append_nil, List.map_cons, List.map_nil, List.replicate, List.getElem?_cons_zero, List.getElem?_cons_succ, List.getElem?_nil, List.set_cons_zero, List.set_cons_succ, if_true, if_false, ite_true, ite_false, and_self, and_true, true_and, reduceCtorEq, Bool.not_true, Bool.not_false, decide_true, decide_false, maxLen, f3, h2]
  · have e1 : m_never_less [rul B, rul A] m = .ok (.bl true) m := by
      unfold m_never_less ir_never_less
      simp only [DI.Ev.ss_nil, DI.Ev.ss_cons, DI.Ev.st_try, DI.Ev.ee_0, DI.Ev.ee_1, DI.Ev.ee_2, DI.Ev.ee_3, DI.Ev.ee_4, DI.Ev.ee_5, DI.Ev.ee_6, DI.Ev.ee_7, DI.Ev.ee_8, DI.Ev.ee_9, DI.Ev.ee_10, DI.Ev.ee_11, DI.Ev.ee_12, DI.Ev.ee_13, DI.Ev.ee_14, DI.Ev.ee_15, DI.Ev.ee_16, DI.Ev.ee_17, DI.Ev.ee_18, DI.Ev.ee_19, DI.Ev.ee_20, DI.Ev.ee_21, DI.Ev.ee_22, DI.Ev.ee_23, DI.Ev.ee_24, DI.Ev.ee_25, DI.Ev.ee_26, DI.Ev.ee_27, DI.Ev.ee_28, DI.Ev.ee_29, DI.Ev.ee_30, DI.Ev.es_0, DI.Ev.es_1, DI.Ev.eo_0, DI.Ev.eo_1, DI.Ev.ec_0, DI.Ev.ec_1, DI.Ev.ei_0, DI.Ev.ei_1, DI.Ev.ei_2, DI.Ev.ei_3, DI.Ev.ei_4, DI.Ev.ei_5, DI.Ev.ei_6, DI.Ev.st_0, DI.Ev.st_1, DI.Ev.st_2, DI.Ev.st_3, DI.Ev.st_4, DI.Ev.st_5, DI.Ev.st_6, DI.Ev.st_7, DI.Ev.st_8, DI.Ev.st_9, DI.Ev.st_10, DI.Ev.st_11, DI.Ev.st_12, DI.Ev.st_13, DI.Ev.st_14, DI.Ev.st_17, DI.Ev.st_18, DI.Ev.st_19, DI.Ev.st_20, evH, DI.Ev.compX_nil, DI.Ev.compX_cons, DI.Ev.noX_ok, ↓reduceIte, DI.T.slots, DI.T.slotss, DI.wipeS, DI.Ev.bind_ok, DI.Ev.bind_exc, DI.Ev.out_ok, DI.Ev.out_exc, DI.Ev.seq_nx, DI.Ev.seq_ret, DI.Ev.seq_exc, DI.Ev.seq_brk, DI.Ev.seq_ct, DI.Ev.rnd_nx, DI.Ev.rnd_ct, DI.Ev.rnd_brk, DI.Ev.rnd_ret, DI.Ev.rnd_exc, DI.Ev.tr_nx, DI.Ev.tr_ret, DI.Ev.tr_exc, DI.Ev.fin_ret, DI.Ev.fin_nx, DI.Ev.fin_exc, DI.Ev.st_for, DI.Ev.forF_eq, DI.Ev.e_lcomp, DI.Ev.e_dcomp, DI.Ev.compF_eq, DI.Ev.compG_eq, DI.Ev.forX_cons, DI.Ev.forX_nil, DI.Ev.evF_eq, DI.Ev.nxO_some, DI.Ev.asg_var, DI.Ev.asg_tup, DI.Ev.asg_lst, DI.Ev.asgs_nil, DI.Ev.asgs_cons, DI.Ev.obind, DI.Ev.lift_some, DI.Ev.call_some, DI.Ev.bin_add, DI.Ev.bin_sub, DI.Ev.negD_int, DI.Ev.cmp_lt, DI.Ev.cmp_le, DI.Ev.cmp_gt, DI.Ev.cmp_ge, DI.Ev.cmp_eqI, DI.Ev.cmp_neI, DI.Ev.cmp_eqB, DI.Ev.cmp_neB, DI.Ev.cmp_eqT, splD, List.length_cons, List.length_nil, Nat.reduceAdd, Nat.reduceSub, Nat.reduceLeDiff, Nat.reduceLT, Nat.le_refl, List.cons_append, List.nil_append, List.append_nil, List.map_cons, List.map_nil, List.replicate, List.getElem?_cons_zero, List.getElem?_cons_succ, List.getElem?_nil, List.set_cons_zero, List.set_cons_succ, if_true, if_false, ite_true, ite_false, and_self, and_true, true_and, reduceCtorEq, Bool.not_true, Bool.not_false, decide_true, decide_false, maxLen, f1, h2]
    refine .inr ⟨h1, ?_, ?_⟩
    · unfold m_never_dearer ir_never_dearer
      simp only [DI.Ev.ss_nil, DI.Ev.ss_cons, DI.Ev.st_try, DI.Ev.ee_0, DI.Ev.ee_1, DI.Ev.ee_2, DI.Ev.ee_3, DI.Ev.ee_4, DI.Ev.ee_5, DI.Ev.ee_6, DI.Ev.ee_7, DI.Ev.ee_8, DI.Ev.ee_9, DI.Ev.ee_10, DI.Ev.ee_11, DI.Ev.ee_12, DI.Ev.ee_13, DI.Ev.ee_14, DI.Ev.ee_15, DI.Ev.ee_16, DI.Ev.ee_17, DI.Ev.ee_18, DI.Ev.ee_19, DI.Ev.ee_20, DI.Ev.ee_21, DI.Ev.ee_22, DI.Ev.ee_23, DI.Ev.ee_24, DI.Ev.ee_25, DI.Ev.ee_26, DI.Ev.ee_27, DI.Ev.ee_28, DI.Ev.ee_29, DI.Ev.ee_30, DI.Ev.es_0, DI.Ev.es_1, DI.Ev.eo_0, DI.Ev.eo_1, DI.Ev.ec_0, DI.Ev.ec_1, DI.Ev.ei_0, DI.Ev.ei_1, DI.Ev.ei_2, DI.Ev.ei_3, DI.Ev.ei_4, DI.Ev.ei_5, DI.Ev.ei_6, DI.Ev.st_0, DI.Ev.st_1, DI.Ev.st_2, DI.Ev.st_3, DI.Ev.st_4, DI.Ev.st_5, DI.Ev.st_6, DI.Ev.st_7, DI.Ev.st_8, DI.Ev.st_9, DI.Ev.st_10, DI.Ev.st_11, DI.Ev.st_12, DI.Ev.st_13, DI.Ev.st_14, DI.Ev.st_17, DI.Ev.st_18, DI.Ev.st_19, DI.Ev.st_20, evH, DI.Ev.compX_nil, DI.Ev.compX_cons, DI.Ev.noX_ok, ↓reduceIte, DI.T.slots, DI.T.slotss, DI.wipeS, DI.Ev.bind_ok, DI.Ev.bind_exc, DI.Ev.out_ok, DI.Ev.out_exc, DI.Ev.seq_nx, DI.Ev.seq_ret, DI.Ev.seq_exc, DI.Ev.seq_brk, DI.Ev.seq_ct, DI.Ev.rnd_nx, DI.Ev.rnd_ct, DI.Ev.rnd_brk, DI.Ev.rnd_ret, DI.Ev.rnd_exc, DI.Ev.tr_nx, DI.Ev.tr_ret, DI.Ev.tr_exc, DI.Ev.fin_ret, DI.Ev.fin_nx, DI.Ev.fin_exc, DI.Ev.st_for, DI.Ev.forF_eq, DI.Ev.e_lcomp, DI.Ev.e_dcomp, DI.Ev.compF_eq, DI.Ev.compG_eq, DI.Ev.forX_cons, DI.Ev.forX_nil, DI.Ev.evF_eq, DI.Ev.nxO_some, DI.Ev.asg_var, DI.Ev.asg_tup, DI.Ev.asg_lst, DI.Ev.asgs_nil, DI.Ev.asgs_cons, DI.Ev.obind, DI.Ev.lift_some, DI.Ev.call_some, DI.Ev.bin_add, DI.Ev.bin_sub, DI.Ev.negD_int, DI.Ev.cmp_lt, DI.Ev.cmp_le, DI.Ev.cmp_gt, DI.Ev.cmp_ge, DI.Ev.cmp_eqI, DI.Ev.cmp_neI, DI.Ev.cmp_eqB, DI.Ev.cmp_neB, DI.Ev.cmp_eqT, splD, List.length_cons, List.length_nil, Nat.reduceAdd, Nat.reduceSub, Nat.reduceLeDiff, Nat.reduceLT, Nat.le_refl, List.cons_append, List.nil_append, List.append_nil, List.map_cons, List.map_nil, List.replicate, List.getElem?_cons_zero, List.getElem?_cons_succ, List.getElem?_nil, List.set_cons_zero, List.set_cons_succ, if_true, if_false, ite_true, ite_false, and_self, and_true, true_and, reduceCtorEq, Bool.not_true, Bool.not_false, decide_true, decide_false, maxLen, f2, e1]
    · unfold m_dearer_at ir_dearer_at
      simp only [DI.Ev.ss_nil, DI.Ev.ss_cons, DI.Ev.st_try, DI.Ev.ee_0, DI.Ev.ee_1, DI.Ev.ee_2, DI.Ev.ee_3, DI.Ev.ee_4, DI.Ev.ee_5, DI.Ev.ee_6, DI.Ev.ee_7, DI.Ev.ee_8, DI.Ev.ee_9, DI.Ev.ee_10, DI.Ev.ee_11, DI.Ev.ee_12, DI.Ev.ee_13, DI.Ev.ee_14, DI.Ev.ee_15, DI.Ev.ee_16, DI.Ev.ee_17, DI.Ev.ee_18, DI.Ev.ee_19, DI.Ev.ee_20, DI.Ev.ee_21, DI.Ev.ee_22, DI.Ev.ee_23, DI.Ev.ee_24, DI.Ev.ee_25, DI.Ev.ee_26, DI.Ev.ee_27, DI.Ev.ee_28, DI.Ev.ee_29, DI.Ev.ee_30, DI.Ev.es_0, DI.Ev.es_1, DI.Ev.eo_0, DI.Ev.eo_1, DI.Ev.ec_0, DI.Ev.ec_1, DI.Ev.ei_0, DI.Ev.ei_1, DI.Ev.ei_2, DI.Ev.ei_3, DI.Ev.ei_4, DI.Ev.ei_5, DI.Ev.ei_6, DI.Ev.st_0, DI.Ev.st_1, DI.Ev.st_2, DI.Ev.st_3, DI.Ev.st_4, DI.Ev.st_5, DI.Ev.st_6, DI.Ev.st_7, DI.Ev.st_8, DI.Ev.st_9, DI.Ev.st_10, DI.Ev.st_11, DI.Ev.st_12, DI.Ev.st_13, DI.Ev.st_14, DI.Ev.st_17, DI.Ev.st_18, DI.Ev.st_19, DI.Ev.st_20, evH, DI.Ev.compX_nil, DI.Ev.compX_cons, DI.Ev.noX_ok, ↓reduceIte, DI.T.slots, DI.T.slotss, DI.wipeS, DI.Ev.bind_ok, DI.Ev.bind_exc, DI.Ev.out_ok, DI.Ev.out_exc, DI.Ev.seq_nx, DI.Ev.seq_ret, DI.Ev.seq_exc, DI.Ev.seq_brk, DI.Ev.seq_ct, DI.Ev.rnd_nx, DI.Ev.rnd_ct, DI.Ev.rnd_brk, DI.Ev.rnd_ret, DI.Ev.rnd_exc, DI.Ev.tr_nx, DI.Ev.tr_ret, DI.Ev.tr_exc, DI.Ev.fin_ret, DI.Ev.fin_nx, DI.Ev.fin_exc, DI.Ev.st_for, DI.Ev.forF_eq, DI.Ev.e_lcomp, DI.Ev.e_dcomp, DI.Ev.compF_eq, DI.Ev.compG_eq, DI.Ev.forX_cons, DI.Ev.forX_nil, DI.Ev.evF_eq, DI.Ev.nxO_some, DI.Ev.asg_var, DI.Ev.asg_tup, DI.Ev.asg_lst, DI.Ev.asgs_nil, DI.Ev.asgs_cons, DI.Ev.obind, DI.Ev.lift_some, DI.Ev.call_some, DI.Ev.bin_add, DI.Ev.bin_sub, DI.Ev.negD_int, DI.Ev.cmp_lt, DI.Ev.cmp_le, DI.Ev.cmp_gt, DI.Ev.cmp_ge, DI.Ev.cmp_eqI, DI.Ev.cmp_neI, DI.Ev.cmp_eqB, DI.Ev.cmp_neB, DI.Ev.cmp_eqT, splD, List.length_cons, List.length_nil, Nat.reduceAdd, Nat.reduceSub, Nat.reduceLeDiff, Nat.reduceLT, Nat.le_refl, List.cons_append, List.nil_append, List.append_nil, List.map_cons, List.map_nil, List.replicate, List.getElem?_cons_zero, List.getElem?_cons_succ, List.getElem?_nil, List.set_cons_zero, List.set_cons_succ, if_true, if_false, ite_true, ite_false, and_self, and_true, true_and, reduceCtorEq, Bool.not_true, Bool.not_false, decide_true, decide_false, maxLen, f3, h2]
/-! ### the law's own -/
theorem it_tup (xs : List D) : itemsD (.tup xs) = some xs := rfl
theorem row_ok (p q : Q) : m__law_row [.tup [raq p, raq q]] m = .ok (.lst [prq p, prq q]) m := by
  have f2 : g__law_row.fld = flds := rfl
  have at1 : ∀ (q : Q) m, attrD g__law_row (raq q) "top" m = some (.int q.1) := fun q m => attr_top _ _ _ f2 m
  have at2 : ∀ (q : Q) m, attrD g__law_row (raq q) "bottom" m = some (.int q.2) := fun q m => attr_bottom _ _ _ f2 m
  unfold m__law_row ir__law_row
  unfold prq
  simp only [DI.Ev.ss_nil, DI.Ev.ss_cons, DI.Ev.st_try, DI.Ev.ee_0, DI.Ev.ee_1, DI.Ev.ee_2, DI.Ev.ee_3, DI.Ev.ee_4, DI.Ev.ee_5, DI.Ev.ee_6, DI.Ev.ee_7, DI.Ev.ee_8, DI.Ev.ee_9, DI.Ev.ee_10, DI.Ev.ee_11, DI.Ev.ee_12, DI.Ev.ee_13, DI.Ev.ee_14, DI.Ev.ee_15, DI.Ev.ee_16, DI.Ev.ee_17, DI.Ev.ee_18, DI.Ev.ee_19, DI.Ev.ee_20, DI.Ev.ee_21, DI.Ev.ee_22, DI.Ev.ee_23, DI.Ev.ee_24, DI.Ev.ee_25, DI.Ev.ee_26, DI.Ev.ee_27, DI.Ev.ee_28, DI.Ev.ee_29, DI.Ev.ee_30, DI.Ev.es_0, DI.Ev.es_1, DI.Ev.eo_0, DI.Ev.eo_1, DI.Ev.ec_0, DI.Ev.ec_1, DI.Ev.ei_0, DI.Ev.ei_1, DI.Ev.ei_2, DI.Ev.ei_3, DI.Ev.ei_4, DI.Ev.ei_5, DI.Ev.ei_6, DI.Ev.st_0, DI.Ev.st_1, DI.Ev.st_2, DI.Ev.st_3, DI.Ev.st_4, DI.Ev.st_5, DI.Ev.st_6, DI.Ev.st_7, DI.Ev.st_8, DI.Ev.st_9, DI.Ev.st_10, DI.Ev.st_11, DI.Ev.st_12, DI.Ev.st_13, DI.Ev.st_14, DI.Ev.st_17, DI.Ev.st_18, DI.Ev.st_19, DI.Ev.st_20, evH, DI.Ev.compX_nil, DI.Ev.compX_cons, DI.Ev.noX_ok, ↓reduceIte, DI.T.slots, DI.T.slotss, DI.wipeS, DI.Ev.bind_ok, DI.Ev.bind_exc, DI.Ev.out_ok, DI.Ev.out_exc, DI.Ev.seq_nx, DI.Ev.seq_ret, DI.Ev.seq_exc, DI.Ev.seq_brk, DI.Ev.seq_ct, DI.Ev.rnd_nx, DI.Ev.rnd_ct, DI.Ev.rnd_brk, DI.Ev.rnd_ret, DI.Ev.rnd_exc, DI.Ev.tr_nx, DI.Ev.tr_ret, DI.Ev.tr_exc, DI.Ev.fin_ret, DI.Ev.fin_nx, DI.Ev.fin_exc, DI.Ev.st_for, DI.Ev.forF_eq, DI.Ev.e_lcomp, DI.Ev.e_dcomp, DI.Ev.compF_eq, DI.Ev.compG_eq, DI.Ev.forX_cons, DI.Ev.forX_nil, DI.Ev.evF_eq, DI.Ev.nxO_some, DI.Ev.asg_var, DI.Ev.asg_tup, DI.Ev.asg_lst, DI.Ev.asgs_nil, DI.Ev.asgs_cons, DI.Ev.obind, DI.Ev.lift_some, DI.Ev.call_some, DI.Ev.bin_add, DI.Ev.bin_sub, DI.Ev.negD_int, DI.Ev.cmp_lt, DI.Ev.cmp_le, DI.Ev.cmp_gt, DI.Ev.cmp_ge, DI.Ev.cmp_eqI, DI.Ev.cmp_neI, DI.Ev.cmp_eqB, DI.Ev.cmp_neB, DI.Ev.cmp_eqT, splD, List.length_cons, List.length_nil, Nat.reduceAdd, Nat.reduceSub, Nat.reduceLeDiff, Nat.reduceLT, Nat.le_refl, List.cons_append, List.nil_append, List.append_nil, List.map_cons, List.map_nil, List.replicate, List.getElem?_cons_zero, List.getElem?_cons_succ, List.getElem?_nil, List.set_cons_zero, List.set_cons_succ, if_true, if_false, ite_true, ite_false, and_self, and_true, true_and, reduceCtorEq, Bool.not_true, Bool.not_false, decide_true, decide_false, maxLen, it_tup, at1, at2]
theorem told_ok (q : Q) : m__law_told [raq q] m = .ok (prq q) m := by
  have f2 : g__law_told.fld = flds := rfl
  have at1 : ∀ m, attrD g__law_told (raq q) "top" m = some (.int q.1) := fun m => attr_top _ _ _ f2 m
  have at2 : ∀ m, attrD g__law_told (raq q) "bottom" m = some (.int q.2) := fun m => attr_bottom _ _ _ f2 m
  unfold m__law_told ir__law_told
  unfold prq
  simp only [DI.Ev.ss_nil, DI.Ev.ss_cons, DI.Ev.st_try, DI.Ev.ee_0, DI.Ev.ee_1, DI.Ev.ee_2, DI.Ev.ee_3, DI.Ev.ee_4, DI.Ev.ee_5, DI.Ev.ee_6, DI.Ev.ee_7, DI.Ev.ee_8, DI.Ev.ee_9, DI.Ev.ee_10, DI.Ev.ee_11, DI.Ev.ee_12, DI.Ev.ee_13, DI.Ev.ee_14, DI.Ev.ee_15, DI.Ev.ee_16, DI.Ev.ee_17, DI.Ev.ee_18, DI.Ev.ee_19, DI.Ev.ee_20, DI.Ev.ee_21, DI.Ev.ee_22, DI.Ev.ee_23, DI.Ev.ee_24, DI.Ev.ee_25, DI.Ev.ee_26, DI.Ev.ee_27, DI.Ev.ee_28, DI.Ev.ee_29, DI.Ev.ee_30, DI.Ev.es_0, DI.Ev.es_1, DI.Ev.eo_0, DI.Ev.eo_1, DI.Ev.ec_0, DI.Ev.ec_1, DI.Ev.ei_0, DI.Ev.ei_1, DI.Ev.ei_2, DI.Ev.ei_3, DI.Ev.ei_4, DI.Ev.ei_5, DI.Ev.ei_6, DI.Ev.st_0, DI.Ev.st_1, DI.Ev.st_2, DI.Ev.st_3, DI.Ev.st_4, DI.Ev.st_5, DI.Ev.st_6, DI.Ev.st_7, DI.Ev.st_8, DI.Ev.st_9, DI.Ev.st_10, DI.Ev.st_11, DI.Ev.st_12, DI.Ev.st_13, DI.Ev.st_14, DI.Ev.st_17, DI.Ev.st_18, DI.Ev.st_19, DI.Ev.st_20, evH, DI.Ev.compX_nil, DI.Ev.compX_cons, DI.Ev.noX_ok, ↓reduceIte, DI.T.slots, DI.T.slotss, DI.wipeS, DI.Ev.bind_ok, DI.Ev.bind_exc, DI.Ev.out_ok, DI.Ev.out_exc, DI.Ev.seq_nx, DI.Ev.seq_ret, DI.Ev.seq_exc, DI.Ev.seq_brk, DI.Ev.seq_ct, DI.Ev.rnd_nx, DI.Ev.rnd_ct, DI.Ev.rnd_brk, DI.Ev.rnd_ret, DI.Ev.rnd_exc, DI.Ev.tr_nx, DI.Ev.tr_ret, DI.Ev.tr_exc, DI.Ev.fin_ret, DI.Ev.fin_nx, DI.Ev.fin_exc, DI.Ev.st_for, DI.Ev.forF_eq, DI.Ev.e_lcomp, DI.Ev.e_dcomp, DI.Ev.compF_eq, DI.Ev.compG_eq, DI.Ev.forX_cons, DI.Ev.forX_nil, DI.Ev.evF_eq, DI.Ev.nxO_some, DI.Ev.asg_var, DI.Ev.asg_tup, DI.Ev.asg_lst, DI.Ev.asgs_nil, DI.Ev.asgs_cons, DI.Ev.obind, DI.Ev.lift_some, DI.Ev.call_some, DI.Ev.bin_add, DI.Ev.bin_sub, DI.Ev.negD_int, DI.Ev.cmp_lt, DI.Ev.cmp_le, DI.Ev.cmp_gt, DI.Ev.cmp_ge, DI.Ev.cmp_eqI, DI.Ev.cmp_neI, DI.Ev.cmp_eqB, DI.Ev.cmp_neB, DI.Ev.cmp_eqT, splD, List.length_cons, List.length_nil, Nat.reduceAdd, Nat.reduceSub, Nat.reduceLeDiff, Nat.reduceLT, Nat.le_refl, List.cons_append, List.nil_append, List.append_nil, List.map_cons, List.map_nil, List.replicate, List.getElem?_cons_zero, List.getElem?_cons_succ, List.getElem?_nil, List.set_cons_zero, List.set_cons_succ, if_true, if_false, ite_true, ite_false, and_self, and_true, true_and, reduceCtorEq, Bool.not_true, Bool.not_false, decide_true, decide_false, maxLen, at1, at2]
def bodyG : List S := match ir__law_grown with | _ :: .for_ _ _ b :: _ => b | _ => []
theorem gr_eq : ir__law_grown = [.asg (.var 2) (.tup [.con (.int 1), .con (.int 1)]), .for_ (.var 3) (.seq (.var 1)) bodyG, .ret (.var 2)] := rfl
theorem gr_loop {L : List Step} (h : OkS L) {x1 : Option SV} : ∀ (js : List Int) (x3 : Option SV) (k : Nat) (p : Q), (∀ j ∈ js, 0 ≤ j ∧ j ≤ 40) → OkQ k p → k + 70 * js.length ≤ 1900 → ∃ x3',
    forX (forF g__law_grown (.var 3) bodyG) (js.map fun j => prq (uq j)) [some (.sh (.lst (L.map lst40))), x1, some (.sh (prq p)), x3] m = .nx [some (.sh (.lst (L.map lst40))), x1, some (.sh (prq (grown L p js))), x3'] m
  | [], x3, k, p, _, _, _ => ⟨x3, rfl⟩
  | j :: js, x3, k, p, hj', op, hk => by
    simp only [List.length_cons] at hk
    have hj := hj' j (List.mem_cons_self ..)
    have f1 : g__law_grown.fn = [m__law_times, m__law_plus, m__law_rate] := rfl
    obtain ⟨e1, o⟩ := h.ro.has j hj.1
    have o1 := one_ok o
    have r1 : ∀ m, m__law_rate [.lst (L.map lst40), prq (uq j)] m = .ok (prq (rq L j)) m := fun m => law_rate_ok h hj e1
    have r2 : ∀ m, m__law_plus [.tup [.int 1, .int 1], prq (rq L j)] m = .ok (prq (oneq (rq L j))) m := fun m => plus_ok (a := 1) (b := 1) (by decide) o.nf.ne (sm_of (by decide)) (sm_of (by decide)) (o.b1.sm (by decide)) (o.b2.sm (by decide)) (by rw [Int.one_mul]; exact o.b2.sm (by decide))
    have r3 : ∀ m, m__law_times [prq p, prq (oneq (rq L j))] m = .ok (prq (mulq p (oneq (rq L j)))) m := fun m => times_ok op.nf.ne o1.nf.ne (op.b1.sm (by omega)) (op.b2.sm (by omega)) (o1.b1.sm (by decide)) (o1.b2.sm (by decide)) ((op.b2.mul o1.b2).sm (by omega))
    obtain ⟨x3', e⟩ := gr_loop h (x1 := x1) js (some (.sh (prq (uq j)))) (k + 70) _ (fun i hi => hj' i (List.mem_cons_of_mem _ hi)) (mulq_ok op o1) (by omega)
    have t : asgT (.var 3) (prq (uq j)) [some (.sh (.lst (L.map lst40))), x1, some (.sh (prq p)), x3] = some [some (.sh (.lst (L.map lst40))), x1, some (.sh (prq p)), some (.sh (prq (uq j)))] := rfl
    have eb : evSs g__law_grown bodyG [some (.sh (.lst (L.map lst40))), x1, some (.sh (prq p)), some (.sh (prq (uq j)))] m = .nx [some (.sh (.lst (L.map lst40))), x1, some (.sh (prq (mulq p (oneq (rq L j))))), some (.sh (prq (uq j)))] m := by
      unfold bodyG ir__law_grown
      simp only [DI.Ev.ss_nil, DI.Ev.ss_cons, DI.Ev.st_try, DI.Ev.ee_0, DI.Ev.ee_1, DI.Ev.ee_2, DI.Ev.ee_3, DI.Ev.ee_4, DI.Ev.ee_5, DI.Ev.ee_6, DI.Ev.ee_7, DI.Ev.ee_8, DI.Ev.ee_9, DI.Ev.ee_10, DI.Ev.ee_11, DI.Ev.ee_12, DI.Ev.ee_13, DI.Ev.ee_14, DI.Ev.ee_15, DI.Ev.ee_16, DI.Ev.ee_17, DI.Ev.ee_18, DI.Ev.ee_19, DI.Ev.ee_20, DI.Ev.ee_21, DI.Ev.ee_22, DI.Ev.ee_23, DI.Ev.ee_24, DI.Ev.ee_25, DI.Ev.ee_26, DI.Ev.ee_27, DI.Ev.ee_28, DI.Ev.ee_29, DI.Ev.ee_30, DI.Ev.es_0, DI.Ev.es_1, DI.Ev.eo_0, DI.Ev.eo_1, DI.Ev.ec_0, DI.Ev.ec_1, DI.Ev.ei_0, DI.Ev.ei_1, DI.Ev.ei_2, DI.Ev.ei_3, DI.Ev.ei_4, DI.Ev.ei_5, DI.Ev.ei_6, DI.Ev.st_0, DI.Ev.st_1, DI.Ev.st_2, DI.Ev.st_3, DI.Ev.st_4, DI.Ev.st_5, DI.Ev.st_6, DI.Ev.st_7, DI.Ev.st_8, DI.Ev.st_9, DI.Ev.st_10, DI.Ev.st_11, DI.Ev.st_12, DI.Ev.st_13, DI.Ev.st_14, DI.Ev.st_17, DI.Ev.st_18, DI.Ev.st_19, DI.Ev.st_20, evH, DI.Ev.compX_nil, DI.Ev.compX_cons, DI.Ev.noX_ok, ↓reduceIte, DI.T.slots, DI.T.slotss, DI.wipeS, DI.Ev.bind_ok, DI.Ev.bind_exc, DI.Ev.out_ok, DI.Ev.out_exc, DI.Ev.seq_nx, DI.Ev.seq_ret, DI.Ev.seq_exc, DI.Ev.seq_brk, DI.Ev.seq_ct, DI.Ev.rnd_nx, DI.Ev.rnd_ct, DI.Ev.rnd_brk, DI.Ev.rnd_ret, DI.Ev.rnd_exc, DI.Ev.tr_nx, DI.Ev.tr_ret, DI.Ev.tr_exc, DI.Ev.fin_ret, DI.Ev.fin_nx, DI.Ev.fin_exc, DI.Ev.st_for, DI.Ev.forF_eq, DI.Ev.e_lcomp, DI.Ev.e_dcomp, DI.Ev.compF_eq, DI.Ev.compG_eq, DI.Ev.forX_cons, DI.Ev.forX_nil, DI.Ev.evF_eq, DI.Ev.nxO_some, DI.Ev.asg_var, DI.Ev.asg_tup, DI.Ev.asg_lst, DI.Ev.asgs_nil, DI.Ev.asgs_cons, DI.Ev.obind, DI.Ev.lift_some, DI.Ev.call_some, DI.Ev.bin_add, DI.Ev.bin_sub, DI.Ev.negD_int, DI.Ev.cmp_lt, DI.Ev.cmp_le, DI.Ev.cmp_gt, DI.Ev.cmp_ge, DI.Ev.cmp_eqI, DI.Ev.cmp_neI, DI.Ev.cmp_eqB, DI.Ev.cmp_neB, DI.Ev.cmp_eqT, splD, List.length_cons, List.length_nil, Nat.reduceAdd, Nat.reduceSub, Nat.reduceLeDiff, Nat.reduceLT, Nat.le_refl, List.cons_append, List.nil_append, List.append_nil, List.map_cons, List.map_nil, List.replicate, List.getElem?_cons_zero, List.getElem?_cons_succ, List.getElem?_nil, List.set_cons_zero, List.set_cons_succ, if_true, if_false, ite_true, ite_false, and_self, and_true, true_and, reduceCtorEq, Bool.not_true, Bool.not_false, decide_true, decide_false, maxLen, f1, r1, r2, r3]
    refine ⟨x3', ?_⟩
    rw [List.map_cons, forX_cons, forF_ap _ _ _ t, eb, rnd_nx]
    exact e
theorem grown_ok {L : List Step} (h : OkS L) {js : List Int} (hj : ∀ j ∈ js, 0 ≤ j ∧ j ≤ 40) (hl : js.length ≤ 20) : m__law_grown [.lst (L.map lst40), .lst (js.map fun j => prq (uq j))] m = .ok (prq (grown L (1, 1) js)) m := by
  obtain ⟨x3, e⟩ := gr_loop (m := m) h (x1 := some (.sh (.lst (js.map fun j => prq (uq j))))) js none 1 (1, 1) hj q1_ok (by omega)
  unfold m__law_grown
  rw [gr_eq]
  simp only [DI.Ev.ss_nil, DI.Ev.ss_cons, DI.Ev.st_try, DI.Ev.ee_0, DI.Ev.ee_1, DI.Ev.ee_2, DI.Ev.ee_3, DI.Ev.ee_4, DI.Ev.ee_5, DI.Ev.ee_6, DI.Ev.ee_7, DI.Ev.ee_8, DI.Ev.ee_9, DI.Ev.ee_10, DI.Ev.ee_11, DI.Ev.ee_12, DI.Ev.ee_13, DI.Ev.ee_14, DI.Ev.ee_15, DI.Ev.ee_16, DI.Ev.ee_17, DI.Ev.ee_18, DI.Ev.ee_19, DI.Ev.ee_20, DI.Ev.ee_21, DI.Ev.ee_22, DI.Ev.ee_23, DI.Ev.ee_24, DI.Ev.ee_25, DI.Ev.ee_26, DI.Ev.ee_27, DI.Ev.ee_28, DI.Ev.ee_29, DI.Ev.ee_30, DI.Ev.es_0, DI.Ev.es_1, DI.Ev.eo_0, DI.Ev.eo_1, DI.Ev.ec_0, DI.Ev.ec_1, DI.Ev.ei_0, DI.Ev.ei_1, DI.Ev.ei_2, DI.Ev.ei_3, DI.Ev.ei_4, DI.Ev.ei_5, DI.Ev.ei_6, DI.Ev.st_0, DI.Ev.st_1, DI.Ev.st_2, DI.Ev.st_3, DI.Ev.st_4, DI.Ev.st_5, DI.Ev.st_6, DI.Ev.st_7, DI.Ev.st_8, DI.Ev.st_9, DI.Ev.st_10, DI.Ev.st_11, DI.Ev.st_12, DI.Ev.st_13, DI.Ev.st_14, DI.Ev.st_17, DI.Ev.st_18, DI.Ev.st_19, DI.Ev.st_20, evH, DI.Ev.compX_nil, DI.Ev.compX_cons, DI.Ev.noX_ok, ↓reduceIte, DI.T.slots, DI.T.slotss, DI.wipeS, DI.Ev.bind_ok, DI.Ev.bind_exc, DI.Ev.out_ok, DI.Ev.out_exc, DI.Ev.seq_nx, DI.Ev.seq_ret, DI.Ev.seq_exc, DI.Ev.seq_brk, DI.Ev.seq_ct, DI.Ev.rnd_nx, DI.Ev.rnd_ct, DI.Ev.rnd_brk, DI.Ev.rnd_ret, DI.Ev.rnd_exc, DI.Ev.tr_nx, DI.Ev.tr_ret, DI.Ev.tr_exc, DI.Ev.fin_ret, DI.Ev.fin_nx, DI.Ev.fin_exc, DI.Ev.st_for, DI.Ev.forF_eq, DI.Ev.e_lcomp, DI.Ev.e_dcomp, DI.Ev.compF_eq, DI.Ev.compG_eq, DI.Ev.forX_cons, DI.Ev.forX_nil, DI.Ev.evF_eq, DI.Ev.nxO_some, DI.Ev.asg_var, DI.Ev.asg_tup, DI.Ev.asg_lst, DI.Ev.asgs_nil, DI.Ev.asgs_cons, DI.Ev.obind, DI.Ev.lift_some, DI.Ev.call_some, DI.Ev.bin_add, DI.Ev.bin_sub, DI.Ev.negD_int, DI.Ev.cmp_lt, DI.Ev.cmp_le, DI.Ev.cmp_gt, DI.Ev.cmp_ge, DI.Ev.cmp_eqI, DI.Ev.cmp_neI, DI.Ev.cmp_eqB, DI.Ev.cmp_neB, DI.Ev.cmp_eqT, splD, List.length_cons, List.length_nil, Nat.reduceAdd, Nat.reduceSub, Nat.reduceLeDiff, Nat.reduceLT, Nat.le_refl, List.cons_append, List.nil_append, List.append_nil, List.map_cons, List.map_nil, List.replicate, List.getElem?_cons_zero, List.getElem?_cons_succ, List.getElem?_nil, List.set_cons_zero, List.set_cons_succ, if_true, if_false, ite_true, ite_false, and_self, and_true, true_and, reduceCtorEq, Bool.not_true, Bool.not_false, decide_true, decide_false, maxLen, it_lst]
  rw [show (D.tup [.int 1, .int 1]) = prq (1, 1) from rfl, e]
  simp only [DI.Ev.ss_nil, DI.Ev.ss_cons, DI.Ev.st_try, DI.Ev.ee_0, DI.Ev.ee_1, DI.Ev.ee_2, DI.Ev.ee_3, DI.Ev.ee_4, DI.Ev.ee_5, DI.Ev.ee_6, DI.Ev.ee_7, DI.Ev.ee_8, DI.Ev.ee_9, DI.Ev.ee_10, DI.Ev.ee_11, DI.Ev.ee_12, DI.Ev.ee_13, DI.Ev.ee_14, DI.Ev.ee_15, DI.Ev.ee_16, DI.Ev.ee_17, DI.Ev.ee_18, DI.Ev.ee_19, DI.Ev.ee_20, DI.Ev.ee_21, DI.Ev.ee_22, DI.Ev.ee_23, DI.Ev.ee_24, DI.Ev.ee_25, DI.Ev.ee_26, DI.Ev.ee_27, DI.Ev.ee_28, DI.Ev.ee_29, DI.Ev.ee_30, DI.Ev.es_0, DI.Ev.es_1, DI.Ev.eo_0, DI.Ev.eo_1, DI.Ev.ec_0, DI.Ev.ec_1, DI.Ev.ei_0, DI.Ev.ei_1, DI.Ev.ei_2, DI.Ev.ei_3, DI.Ev.ei_4, DI.Ev.ei_5, DI.Ev.ei_6, DI.Ev.st_0, DI.Ev.st_1, DI.Ev.st_2, DI.Ev.st_3, DI.Ev.st_4, DI.Ev.st_5, DI.Ev.st_6, DI.Ev.st_7, DI.Ev.st_8, DI.Ev.st_9, DI.Ev.st_10, DI.Ev.st_11, DI.Ev.st_12, DI.Ev.st_13, DI.Ev.st_14, DI.Ev.st_17, DI.Ev.st_18, DI.Ev.st_19, DI.Ev.st_20, evH, DI.Ev.compX_nil, DI.Ev.compX_cons, DI.Ev.noX_ok, ↓reduceIte, DI.T.slots, DI.T.slotss, DI.wipeS, DI.Ev.bind_ok, DI.Ev.bind_exc, DI.Ev.out_ok, DI.Ev.out_exc, DI.Ev.seq_nx, DI.Ev.seq_ret, DI.Ev.seq_exc, DI.Ev.seq_brk, DI.Ev.seq_ct, DI.Ev.rnd_nx, DI.Ev.rnd_ct, DI.Ev.rnd_brk, DI.Ev.rnd_ret, DI.Ev.rnd_exc, DI.Ev.tr_nx, DI.Ev.tr_ret, DI.Ev.tr_exc, DI.Ev.fin_ret, DI.Ev.fin_nx, DI.Ev.fin_exc, DI.Ev.st_for, DI.Ev.forF_eq, DI.Ev.e_lcomp, DI.Ev.e_dcomp, DI.Ev.compF_eq, DI.Ev.compG_eq, DI.Ev.forX_cons, DI.Ev.forX_nil, DI.Ev.evF_eq, DI.Ev.nxO_some, DI.Ev.asg_var, DI.Ev.asg_tup, DI.Ev.asg_lst, DI.Ev.asgs_nil, DI.Ev.asgs_cons, DI.Ev.obind, DI.Ev.lift_some, DI.Ev.call_some, DI.Ev.bin_add, DI.Ev.bin_sub, DI.Ev.negD_int, DI.Ev.cmp_lt, DI.Ev.cmp_le, DI.Ev.cmp_gt, DI.Ev.cmp_ge, DI.Ev.cmp_eqI, DI.Ev.cmp_neI, DI.Ev.cmp_eqB, DI.Ev.cmp_neB, DI.Ev.cmp_eqT, splD, List.length_cons, List.length_nil, Nat.reduceAdd, Nat.reduceSub, Nat.reduceLeDiff, Nat.reduceLT, Nat.le_refl, List.cons_append, List.nil_append, List.append_nil, List.map_cons, List.map_nil, List.replicate, List.getElem?_cons_zero, List.getElem?_cons_succ, List.getElem?_nil, List.set_cons_zero, List.set_cons_succ, if_true, if_false, ite_true, ite_false, and_self, and_true, true_and, reduceCtorEq, Bool.not_true, Bool.not_false, decide_true, decide_false, maxLen]
/-- nowhere less, told by all steps or by the fewest -/
theorem lt_few {A B : List Step} (hA : OkS A) (hB : OkS B) : (∃ p ∈ B ++ A, ltAt A B p.1 = true) ↔ ∃ p ∈ few [] A ++ few [] B, ltAt (few [] A) (few [] B) p.1 = true := by
  have same : ∀ j, ltAt (few [] A) (few [] B) j = ltAt A B j := fun j => by unfold ltAt; rw [rq_few hA, rq_few hB]
  constructor
  · rintro ⟨p, hp, h⟩
    have h0 : 0 ≤ p.1 := by
      rcases List.mem_append.mp hp with z | z
      · exact (hB.rng p z).1
      · exact (hA.rng p z).1
    have hz : ∃ p ∈ few [] A, p.1 = 0 := by
      obtain ⟨q, T, _⟩ := hA.head
      obtain ⟨e, _⟩ := hA.rof.has 0 (Int.le_refl _)
      obtain ⟨r, hr, _, hr0⟩ := rateAt_mem e
      have := (hA.rof.p r hr).r.1
      exact ⟨r, hr, by omega⟩
    obtain ⟨r, hr, _, e1, e2⟩ := rate_at_step (A := few [] A) (B := few [] B) hz h0
    refine ⟨r, hr, ?_⟩
    rw [← same] at h
    unfold ltAt rq at *
    rw [e1, e2]
    exact h
  · rintro ⟨p, hp, h⟩
    refine ⟨p, ?_, by rw [← same]; exact h⟩
    rcases List.mem_append.mp hp with z | z
    · exact List.mem_append_right _ (few_mem hA.asc z)
    · exact List.mem_append_left _ (few_mem hB.asc z)
end K56
end

section
set_option linter.all false
set_option exponentiation.threshold 100000
set_option maxRecDepth 100000
set_option maxHeartbeats 1000000
namespace K56
open PySem L2 DI
open PyProof.Rows hiding St
open DI.Ev
theorem fnL : g_law.fn = [m__law_box, m__law_steps, m__law_take, m__law_plus, m__law_rule, m__law_use, m__law_ratio, m_dearer, m__law_row, m__law_grown, m__law_less, m__law_rate, m_never_dearer, m_dearer_at, m__law_told, m__law_refused] := rfl
theorem ints_at (ns : List Int) (k : Int) (h : 0 ≤ k) (h2 : k < ns.length) : ∃ v, atI (ns.map D.int) k = some (.int v) := by
  obtain ⟨x, hx, e⟩ := atI_mem (xs := ns.map D.int) h (by simpa using h2)
  obtain ⟨v, _, rfl⟩ := List.mem_map.mp hx
  exact ⟨v, e⟩
theorem cell_ok (ns : List Int) (k : Int) (h : 0 ≤ k) : ∃ v, ∀ m, m__law_cell [.lst (ns.map .int), .int k] m = .ok (.int v) m := by
  by_cases z : k < ns.length
  · obtain ⟨v, e⟩ := ints_at ns k h z
    refine ⟨v, fun m => ?_⟩
    unfold m__law_cell ir__law_cell
    simp only [DI.Ev.ss_nil, DI.Ev.ss_cons, DI.Ev.st_try, DI.Ev.ee_0, DI.Ev.ee_1, DI.Ev.ee_2, DI.Ev.ee_3, DI.Ev.ee_4, DI.Ev.ee_5, DI.Ev.ee_6, DI.Ev.ee_7, DI.Ev.ee_8, DI.Ev.ee_9, DI.Ev.ee_10, DI.Ev.ee_11, DI.Ev.ee_12, DI.Ev.ee_13, DI.Ev.ee_14, DI.Ev.ee_15, DI.Ev.ee_16, DI.Ev.ee_17, DI.Ev.ee_18, DI.Ev.ee_19, DI.Ev.ee_20, DI.Ev.ee_21, DI.Ev.ee_22, DI.Ev.ee_23, DI.Ev.ee_24, DI.Ev.ee_25, DI.Ev.ee_26, DI.Ev.ee_27, DI.Ev.ee_28, DI.Ev.ee_29, DI.Ev.ee_30, DI.Ev.es_0, DI.Ev.es_1, DI.Ev.eo_0, DI.Ev.eo_1, DI.Ev.ec_0, DI.Ev.ec_1, DI.Ev.ei_0, DI.Ev.ei_1, DI.Ev.ei_2, DI.Ev.ei_3, DI.Ev.ei_4, DI.Ev.ei_5, DI.Ev.ei_6, DI.Ev.st_0, DI.Ev.st_1, DI.Ev.st_2, DI.Ev.st_3, DI.Ev.st_4, DI.Ev.st_5, DI.Ev.st_6, DI.Ev.st_7, DI.Ev.st_8, DI.Ev.st_9, DI.Ev.st_10, DI.Ev.st_11, DI.Ev.st_12, DI.Ev.st_13, DI.Ev.st_14, DI.Ev.st_17, DI.Ev.st_18, DI.Ev.st_19, DI.Ev.st_20, evH, DI.Ev.compX_nil, DI.Ev.compX_cons, DI.Ev.noX_ok, ↓reduceIte, DI.T.slots, DI.T.slotss, DI.wipeS, DI.Ev.bind_ok, DI.Ev.bind_exc, DI.Ev.out_ok, DI.Ev.out_exc, DI.Ev.seq_nx, DI.Ev.seq_ret, DI.Ev.seq_exc, DI.Ev.seq_brk, DI.Ev.seq_ct, DI.Ev.rnd_nx, DI.Ev.rnd_ct, DI.Ev.rnd_brk, DI.Ev.rnd_ret, DI.Ev.rnd_exc, DI.Ev.tr_nx, DI.Ev.tr_ret, DI.Ev.tr_exc, DI.Ev.fin_ret, DI.Ev.fin_nx, DI.Ev.fin_exc, DI.Ev.st_for, DI.Ev.forF_eq, DI.Ev.e_lcomp, DI.Ev.e_dcomp, DI.Ev.compF_eq, DI.Ev.compG_eq, DI.Ev.forX_cons, DI.Ev.forX_nil, DI.Ev.evF_eq, DI.Ev.nxO_some, DI.Ev.asg_var, DI.Ev.asg_tup, DI.Ev.asg_lst, DI.Ev.asgs_nil, DI.Ev.asgs_cons, DI.Ev.obind, DI.Ev.lift_some, DI.Ev.call_some, DI.Ev.bin_add, DI.Ev.bin_sub, DI.Ev.negD_int, DI.Ev.cmp_lt, DI.Ev.cmp_le, DI.Ev.cmp_gt, DI.Ev.cmp_ge, DI.Ev.cmp_eqI, DI.Ev.cmp_neI, DI.Ev.cmp_eqB, DI.Ev.cmp_neB, DI.Ev.cmp_eqT, splD, List.length_cons, List.length_nil, Nat.reduceAdd, Nat.reduceSub, Nat.reduceLeDiff, Nat.reduceLT, Nat.le_refl, List.cons_append, List.nil_append, List.append_nil, List.map_cons, List.map_nil, List.replicate, List.getElem?_cons_zero, List.getElem?_cons_succ, List.getElem?_nil, List.set_cons_zero, List.set_cons_succ, if_true, if_false, ite_true, ite_false, and_self, and_true, true_and, reduceCtorEq, Bool.not_true, Bool.not_false, decide_true, decide_false, maxLen, bi_len, List.length_map, z, idx_lst, e]
  · refine ⟨0, fun m => ?_⟩
    unfold m__law_cell ir__law_cell
    simp only [DI.Ev.ss_nil, DI.Ev.ss_cons, DI.Ev.st_try, DI.Ev.ee_0, DI.Ev.ee_1, DI.Ev.ee_2, DI.Ev.ee_3, DI.Ev.ee_4, DI.Ev.ee_5, DI.Ev.ee_6, DI.Ev.ee_7, DI.Ev.ee_8, DI.Ev.ee_9, DI.Ev.ee_10, DI.Ev.ee_11, DI.Ev.ee_12, DI.Ev.ee_13, DI.Ev.ee_14, DI.Ev.ee_15, DI.Ev.ee_16, DI.Ev.ee_17, DI.Ev.ee_18, DI.Ev.ee_19, DI.Ev.ee_20, DI.Ev.ee_21, DI.Ev.ee_22, DI.Ev.ee_23, DI.Ev.ee_24, DI.Ev.ee_25, DI.Ev.ee_26, DI.Ev.ee_27, DI.Ev.ee_28, DI.Ev.ee_29, DI.Ev.ee_30, DI.Ev.es_0, DI.Ev.es_1, DI.Ev.eo_0, DI.Ev.eo_1, DI.Ev.ec_0, DI.Ev.ec_1, DI.Ev.ei_0, DI.Ev.ei_1, DI.Ev.ei_2, DI.Ev.ei_3, DI.Ev.ei_4, DI.Ev.ei_5, DI.Ev.ei_6, DI.Ev.st_0, DI.Ev.st_1, DI.Ev.st_2, DI.Ev.st_3, DI.Ev.st_4, DI.Ev.st_5, DI.Ev.st_6, DI.Ev.st_7, DI.Ev.st_8, DI.Ev.st_9, DI.Ev.st_10, DI.Ev.st_11, DI.Ev.st_12, DI.Ev.st_13, DI.Ev.st_14, DI.Ev.st_17, DI.Ev.st_18, DI.Ev.st_19, DI.Ev.st_20, evH, DI.Ev.compX_nil, DI.Ev.compX_cons, DI.Ev.noX_ok, ↓reduceIte, DI.T.slots, DI.T.slotss, DI.wipeS, DI.Ev.bind_ok, DI.Ev.bind_exc, DI.Ev.out_ok, DI.Ev.out_exc, DI.Ev.seq_nx, DI.Ev.seq_ret, DI.Ev.seq_exc, DI.Ev.seq_brk, DI.Ev.seq_ct, DI.Ev.rnd_nx, DI.Ev.rnd_ct, DI.Ev.rnd_brk, DI.Ev.rnd_ret, DI.Ev.rnd_exc, DI.Ev.tr_nx, DI.Ev.tr_ret, DI.Ev.tr_exc, DI.Ev.fin_ret, DI.Ev.fin_nx, DI.Ev.fin_exc, DI.Ev.st_for, DI.Ev.forF_eq, DI.Ev.e_lcomp, DI.Ev.e_dcomp, DI.Ev.compF_eq, DI.Ev.compG_eq, DI.Ev.forX_cons, DI.Ev.forX_nil, DI.Ev.evF_eq, DI.Ev.nxO_some, DI.Ev.asg_var, DI.Ev.asg_tup, DI.Ev.asg_lst, DI.Ev.asgs_nil, DI.Ev.asgs_cons, DI.Ev.obind, DI.Ev.lift_some, DI.Ev.call_some, DI.Ev.bin_add, DI.Ev.bin_sub, DI.Ev.negD_int, DI.Ev.cmp_lt, DI.Ev.cmp_le, DI.Ev.cmp_gt, DI.Ev.cmp_ge, DI.Ev.cmp_eqI, DI.Ev.cmp_neI, DI.Ev.cmp_eqB, DI.Ev.cmp_neB, DI.Ev.cmp_eqT, splD, List.length_cons, List.length_nil, Nat.reduceAdd, Nat.reduceSub, Nat.reduceLeDiff, Nat.reduceLT, Nat.le_refl, List.cons_append, List.nil_append, List.append_nil, List.map_cons, List.map_nil, List.replicate, List.getElem?_cons_zero, List.getElem?_cons_succ, List.getElem?_nil, List.set_cons_zero, List.set_cons_succ, if_true, if_false, ite_true, ite_false, and_self, and_true, true_and, reduceCtorEq, Bool.not_true, Bool.not_false, decide_true, decide_false, maxLen, bi_len, List.length_map, z]
theorem box_ok (ns : List Int) (k : Int) (h : 0 ≤ k) (h2 : k ≤ 64) (m : MS) : ∃ m' w q, m__law_box [.lst (ns.map .int), .int k] m = .ok (.ref m.length) m' ∧ Bx m' m.length w 0 q := by
  obtain ⟨v, e⟩ := cell_ok ns k h
  have f1 : g__law_box.fn = [m__law_cell] := rfl
  have hm : mulOk 40503 k := mulOk_lit (by decide) (by omega)
  refine ⟨m ++ [.lst [.int (if v < 0 then -v else v), .int 0, .int (40503 * k + 911)]], if v < 0 then -v else v, 40503 * k + 911, ?_, ⟨by simp, by split <;> omega, by omega, by omega, by omega, by omega⟩⟩
  unfold m__law_box ir__law_box
  simp only [DI.Ev.ss_nil, DI.Ev.ss_cons, DI.Ev.st_try, DI.Ev.ee_0, DI.Ev.ee_1, DI.Ev.ee_2, DI.Ev.ee_3, DI.Ev.ee_4, DI.Ev.ee_5, DI.Ev.ee_6, DI.Ev.ee_7, DI.Ev.ee_8, DI.Ev.ee_9, DI.Ev.ee_10, DI.Ev.ee_11, DI.Ev.ee_12, DI.Ev.ee_13, DI.Ev.ee_14, DI.Ev.ee_15, DI.Ev.ee_16, DI.Ev.ee_17, DI.Ev.ee_18, DI.Ev.ee_19, DI.Ev.ee_20, DI.Ev.ee_21, DI.Ev.ee_22, DI.Ev.ee_23, DI.Ev.ee_24, DI.Ev.ee_25, DI.Ev.ee_26, DI.Ev.ee_27, DI.Ev.ee_28, DI.Ev.ee_29, DI.Ev.ee_30, DI.Ev.es_0, DI.Ev.es_1, DI.Ev.eo_0, DI.Ev.eo_1, DI.Ev.ec_0, DI.Ev.ec_1, DI.Ev.ei_0, DI.Ev.ei_1, DI.Ev.ei_2, DI.Ev.ei_3, DI.Ev.ei_4, DI.Ev.ei_5, DI.Ev.ei_6, DI.Ev.st_0, DI.Ev.st_1, DI.Ev.st_2, DI.Ev.st_3, DI.Ev.st_4, DI.Ev.st_5, DI.Ev.st_6, DI.Ev.st_7, DI.Ev.st_8, DI.Ev.st_9, DI.Ev.st_10, DI.Ev.st_11, DI.Ev.st_12, DI.Ev.st_13, DI.Ev.st_14, DI.Ev.st_17, DI.Ev.st_18, DI.Ev.st_19, DI.Ev.st_20, evH, DI.Ev.compX_nil, DI.Ev.compX_cons, DI.Ev.noX_ok, ↓reduceIte, DI.T.slots, DI.T.slotss, DI.wipeS, DI.Ev.bind_ok, DI.Ev.bind_exc, DI.Ev.out_ok, DI.Ev.out_exc, DI.Ev.seq_nx, DI.Ev.seq_ret, DI.Ev.seq_exc, DI.Ev.seq_brk, DI.Ev.seq_ct, DI.Ev.rnd_nx, DI.Ev.rnd_ct, DI.Ev.rnd_brk, DI.Ev.rnd_ret, DI.Ev.rnd_exc, DI.Ev.tr_nx, DI.Ev.tr_ret, DI.Ev.tr_exc, DI.Ev.fin_ret, DI.Ev.fin_nx, DI.Ev.fin_exc, DI.Ev.st_for, DI.Ev.forF_eq, DI.Ev.e_lcomp, DI.Ev.e_dcomp, DI.Ev.compF_eq, DI.Ev.compG_eq, DI.Ev.forX_cons, DI.Ev.forX_nil, DI.Ev.evF_eq, DI.Ev.nxO_some, DI.Ev.asg_var, DI.Ev.asg_tup, DI.Ev.asg_lst, DI.Ev.asgs_nil, DI.Ev.asgs_cons, DI.Ev.obind, DI.Ev.lift_some, DI.Ev.call_some, DI.Ev.bin_add, DI.Ev.bin_sub, DI.Ev.negD_int, DI.Ev.cmp_lt, DI.Ev.cmp_le, DI.Ev.cmp_gt, DI.Ev.cmp_ge, DI.Ev.cmp_eqI, DI.Ev.cmp_neI, DI.Ev.cmp_eqB, DI.Ev.cmp_neB, DI.Ev.cmp_eqT, splD, List.length_cons, List.length_nil, Nat.reduceAdd, Nat.reduceSub, Nat.reduceLeDiff, Nat.reduceLT, Nat.le_refl, List.cons_append, List.nil_append, List.append_nil, List.map_cons, List.map_nil, List.replicate, List.getElem?_cons_zero, List.getElem?_cons_succ, List.getElem?_nil, List.set_cons_zero, List.set_cons_succ, if_true, if_false, ite_true, ite_false, and_self, and_true, true_and, reduceCtorEq, Bool.not_true, Bool.not_false, decide_true, decide_false, maxLen, f1, e, bi_int, bi_abs, bin_mul hm]
/-! ### the comprehensions that draw -/
theorem comp_up {a0 a1 a3 a4 a5 a6 a7 a8 a9 a10 a11 a12 a13 a14 a15 : Option SV} {i : Nat} {q : Int} : ∀ (L : List Step) {m : MS} {w c : Int}, Bx m i w c q → c + L.length ≤ 900 → (∀ p ∈ L, OkQ 30 p.2 ∧ 0 ≤ p.2.1) →
    ∃ (L' : List Step) (m' : MS) (w' c' : Int), compX (compF g_law (.tup [.var 13, .var 15]) [] (.tup [.var 13, .call 3 [.var 15, .tup [.call 2 [.var 2, .con (.int 2)] [], .con (.int 100)]] []]) [a0, a1, some (.sh (.ref i)), a3, a4, a5, a6, a7, a8, a9, a10, a11, a12, a13, a14, a15]) (L.map lst40) m = .ok (L'.map lst40) m' ∧
      L'.map (·.1) = L.map (·.1) ∧ (∀ p ∈ L', OkQ 60 p.2 ∧ 0 ≤ p.2.1) ∧ Bx m' i w' c' q ∧ c' ≤ c + L.length
  | [], m, w, c, b, hc, h => ⟨[], m, w, c, rfl, rfl, by simp, b, by simp⟩
  | p :: L, m, w, c, b, hc, h => by
    simp only [List.length_cons] at hc
    obtain ⟨o, o0⟩ := h p (List.mem_cons_self ..)
    obtain ⟨t, m1, w1, c1, t1, p1, p1', b1, k1⟩ := take_ok b (by omega) (k := 2) (by decide) (sm_of (by decide))
    obtain ⟨L', m', w', c', e, e2, e3, b', k'⟩ := comp_up L b1 (by omega) (fun r hr => h r (List.mem_cons_of_mem _ hr))
    have hb : p.2.2 * 100 ≠ 0 := Int.mul_ne_zero o.nf.ne (by decide)
    have hp := o.nf.pos
    have bt : Bd 10 t := bd10 (by omega)
    have b100 : Bd 10 100 := bd10 (by decide)
    let r : Q := (nt (p.2.1 * 100 + t * p.2.2) (p.2.2 * 100), nb (p.2.1 * 100 + t * p.2.2) (p.2.2 * 100))
    have pl : m__law_plus [prq p.2, .tup [.int t, .int 100]] m1 = .ok (prq r) m1 := plus_ok o.nf.ne (by decide) (o.b1.sm (by decide)) (o.b2.sm (by decide)) (bt.sm (by decide)) (b100.sm (by decide)) ((o.b2.mul b100).sm (by decide))
    have hr : OkQ 60 r := ⟨nf_of hb, Bd.of_le (((o.b1.mul b100).add ((bt.mul o.b2).mono (show 10 + 30 ≤ 30 + 10 by decide))).mono (by decide)) (nt_le hb), Bd.of_le ((o.b2.mul b100).mono (by decide)) (nb_le hb)⟩
    have hr0 : 0 ≤ r.1 := nt_nn (Int.add_nonneg (by omega) (Int.mul_nonneg p1 (by omega))) (by omega)
    refine ⟨(p.1, r) :: L', m', w', c', ?_, by simp [e2], fun s hs => ?_, b', by simp only [List.length_cons]; omega⟩
    · have e0 : compF g_law (.tup [.var 13, .var 15]) [] (.tup [.var 13, .call 3 [.var 15, .tup [.call 2 [.var 2, .con (.int 2)] [], .con (.int 100)]] []]) [a0, a1, some (.sh (.ref i)), a3, a4, a5, a6, a7, a8, a9, a10, a11, a12, a13, a14, a15] (lst40 p) m = .ok (some (lst40 (p.1, r))) m1 := by
        unfold lst40
        simp only [DI.Ev.ss_nil, DI.Ev.ss_cons, DI.Ev.st_try, DI.Ev.ee_0, DI.Ev.ee_1, DI.Ev.ee_2, DI.Ev.ee_3, DI.Ev.ee_4, DI.Ev.ee_5, DI.Ev.ee_6, DI.Ev.ee_7, DI.Ev.ee_8, DI.Ev.ee_9, DI.Ev.ee_10, DI.Ev.ee_11, DI.Ev.ee_12, DI.Ev.ee_13, DI.Ev.ee_14, DI.Ev.ee_15, DI.Ev.ee_16, DI.Ev.ee_17, DI.Ev.ee_18, DI.Ev.ee_19, DI.Ev.ee_20, DI.Ev.ee_21, DI.Ev.ee_22, DI.Ev.ee_23, DI.Ev.ee_24, DI.Ev.ee_25, DI.Ev.ee_26, DI.Ev.ee_27, DI.Ev.ee_28, DI.Ev.ee_29, DI.Ev.ee_30, DI.Ev.es_0, DI.Ev.es_1, DI.Ev.eo_0, DI.Ev.eo_1, DI.Ev.ec_0, DI.Ev.ec_1, DI.Ev.ei_0, DI.Ev.ei_1, DI.Ev.ei_2, DI.Ev.ei_3, DI.Ev.ei_4, DI.Ev.ei_5, DI.Ev.ei_6, DI.Ev.st_0, DI.Ev.st_1, DI.Ev.st_2, DI.Ev.st_3, DI.Ev.st_4, DI.Ev.st_5, DI.Ev.st_6, DI.Ev.st_7, DI.Ev.st_8, DI.Ev.st_9, DI.Ev.st_10, DI.Ev.st_11, DI.Ev.st_12, DI.Ev.st_13, DI.Ev.st_14, DI.Ev.st_17, DI.Ev.st_18, DI.Ev.st_19, DI.Ev.st_20, evH, DI.Ev.compX_nil, DI.Ev.compX_cons, DI.Ev.noX_ok, ↓reduceIte, DI.T.slots, DI.T.slotss, DI.wipeS, DI.Ev.bind_ok, DI.Ev.bind_exc, DI.Ev.out_ok, DI.Ev.out_exc, DI.Ev.seq_nx, DI.Ev.seq_ret, DI.Ev.seq_exc, DI.Ev.seq_brk, DI.Ev.seq_ct, DI.Ev.rnd_nx, DI.Ev.rnd_ct, DI.Ev.rnd_brk, DI.Ev.rnd_ret, DI.Ev.rnd_exc, DI.Ev.tr_nx, DI.Ev.tr_ret, DI.Ev.tr_exc, DI.Ev.fin_ret, DI.Ev.fin_nx, DI.Ev.fin_exc, DI.Ev.st_for, DI.Ev.forF_eq, DI.Ev.e_lcomp, DI.Ev.e_dcomp, DI.Ev.compF_eq, DI.Ev.compG_eq, DI.Ev.forX_cons, DI.Ev.forX_nil, DI.Ev.evF_eq, DI.Ev.nxO_some, DI.Ev.asg_var, DI.Ev.asg_tup, DI.Ev.asg_lst, DI.Ev.asgs_nil, DI.Ev.asgs_cons, DI.Ev.obind, DI.Ev.lift_some, DI.Ev.call_some, DI.Ev.bin_add, DI.Ev.bin_sub, DI.Ev.negD_int, DI.Ev.cmp_lt, DI.Ev.cmp_le, DI.Ev.cmp_gt, DI.Ev.cmp_ge, DI.Ev.cmp_eqI, DI.Ev.cmp_neI, DI.Ev.cmp_eqB, DI.Ev.cmp_neB, DI.Ev.cmp_eqT, splD, List.length_cons, List.length_nil, Nat.reduceAdd, Nat.reduceSub, Nat.reduceLeDiff, Nat.reduceLT, Nat.le_refl, List.cons_append, List.nil_append, List.append_nil, List.map_cons, List.map_nil, List.replicate, List.getElem?_cons_zero, List.getElem?_cons_succ, List.getElem?_nil, List.set_cons_zero, List.set_cons_succ, if_true, if_false, ite_true, ite_false, and_self, and_true, true_and, reduceCtorEq, Bool.not_true, Bool.not_false, decide_true, decide_false, maxLen, fnL, t1, pl]
      rw [List.map_cons, compX_cons, e0, noX_ok, bind_ok, e, bind_ok]
      rfl
    · rcases List.mem_cons.mp hs with rfl | hs
      · exact ⟨hr, hr0⟩
      · exact e3 s hs
theorem OkS.up {L L' : List Step} (h : OkS L) (e : L'.map (·.1) = L.map (·.1)) (hr : ∀ p ∈ L', OkQ 60 p.2 ∧ 0 ≤ p.2.1) : OkS L' := by
  have hl : L'.length = L.length := by have := congrArg List.length e; simpa using this
  refine ⟨?_, ?_, fun p hp => ?_, hr, by rw [hl]; exact h.len⟩
  · have := List.pairwise_map.mpr h.asc
    rw [← e] at this
    exact List.pairwise_map.mp this
  · obtain ⟨q, T, rfl⟩ := h.head
    cases L' with
    | nil => cases e
    | cons a T' =>
      rw [List.map_cons, List.map_cons] at e
      injection e with e1 e2
      exact ⟨a.2, T', congrArg (· :: T') (Prod.ext e1 rfl : a = (0, a.2))⟩
  · have : p.1 ∈ L.map (·.1) := by rw [← e]; exact List.mem_map_of_mem hp
    obtain ⟨s, hs, es⟩ := List.mem_map.mp this
    rw [← es]
    exact h.rng s hs
theorem comp_use {a0 a1 a4 a5 a6 a7 a8 a9 a10 a11 a12 a13 a14 a15 : Option SV} {i : Nat} {q : Int} {L : List Step} (h : OkS L) : ∀ (xs : List D) {m : MS} {w c : Int}, Bx m i w c q → c + 2 * xs.length ≤ 900 →
    ∃ (js : List Int) (m' : MS) (w' c' : Int), compX (compF g_law (.var 14) [] (.call 5 [.var 2, .var 3] []) [a0, a1, some (.sh (.ref i)), some (.sh (.lst (L.map lst40))), a4, a5, a6, a7, a8, a9, a10, a11, a12, a13, a14, a15]) xs m = .ok (js.map fun j => prq (uq j)) m' ∧
      js.length = xs.length ∧ (∀ j ∈ js, 0 ≤ j ∧ j ≤ 40) ∧ Bx m' i w' c' q ∧ c' ≤ c + 2 * xs.length
  | [], m, w, c, b, hc => ⟨[], m, w, c, rfl, rfl, by simp, b, by simp⟩
  | x :: xs, m, w, c, b, hc => by
    simp only [List.length_cons] at hc
    obtain ⟨j, m1, w1, c1, e1, hj, b1, k1⟩ := law_use_ok b (by omega) h
    obtain ⟨js, m', w', c', e, e2, e3, b', k'⟩ := comp_use h xs b1 (by omega)
    refine ⟨j :: js, m', w', c', ?_, by simp [e2], fun s hs => ?_, b', by simp only [List.length_cons]; omega⟩
    · have e0 : compF g_law (.var 14) [] (.call 5 [.var 2, .var 3] []) [a0, a1, some (.sh (.ref i)), some (.sh (.lst (L.map lst40))), a4, a5, a6, a7, a8, a9, a10, a11, a12, a13, a14, a15] x m = .ok (some (prq (uq j))) m1 := by
        simp only [DI.Ev.ss_nil, DI.Ev.ss_cons, DI.Ev.st_try, DI.Ev.ee_0, DI.Ev.ee_1, DI.Ev.ee_2, DI.Ev.ee_3, DI.Ev.ee_4, DI.Ev.ee_5, DI.Ev.ee_6, DI.Ev.ee_7, DI.Ev.ee_8, DI.Ev.ee_9, DI.Ev.ee_10, DI.Ev.ee_11, DI.Ev.ee_12, DI.Ev.ee_13, DI.Ev.ee_14, DI.Ev.ee_15, DI.Ev.ee_16, DI.Ev.ee_17, DI.Ev.ee_18, DI.Ev.ee_19, DI.Ev.ee_20, DI.Ev.ee_21, DI.Ev.ee_22, DI.Ev.ee_23, DI.Ev.ee_24, DI.Ev.ee_25, DI.Ev.ee_26, DI.Ev.ee_27, DI.Ev.ee_28, DI.Ev.ee_29, DI.Ev.ee_30, DI.Ev.es_0, DI.Ev.es_1, DI.Ev.eo_0, DI.Ev.eo_1, DI.Ev.ec_0, DI.Ev.ec_1, DI.Ev.ei_0, DI.Ev.ei_1, DI.Ev.ei_2, DI.Ev.ei_3, DI.Ev.ei_4, DI.Ev.ei_5, DI.Ev.ei_6, DI.Ev.st_0, DI.Ev.st_1, DI.Ev.st_2, DI.Ev.st_3, DI.Ev.st_4, DI.Ev.st_5, DI.Ev.st_6, DI.Ev.st_7, DI.Ev.st_8, DI.Ev.st_9, DI.Ev.st_10, DI.Ev.st_11, DI.Ev.st_12, DI.Ev.st_13, DI.Ev.st_14, DI.Ev.st_17, DI.Ev.st_18, DI.Ev.st_19, DI.Ev.st_20, evH, DI.Ev.compX_nil, DI.Ev.compX_cons, DI.Ev.noX_ok, ↓reduceIte, DI.T.slots, DI.T.slotss, DI.wipeS, DI.Ev.bind_ok, DI.Ev.bind_exc, DI.Ev.out_ok, DI.Ev.out_exc, DI.Ev.seq_nx, DI.Ev.seq_ret, DI.Ev.seq_exc, DI.Ev.seq_brk, DI.Ev.seq_ct, DI.Ev.rnd_nx, DI.Ev.rnd_ct, DI.Ev.rnd_brk, DI.Ev.rnd_ret, DI.Ev.rnd_exc, DI.Ev.tr_nx, DI.Ev.tr_ret, DI.Ev.tr_exc, DI.Ev.fin_ret, DI.Ev.fin_nx, DI.Ev.fin_exc, DI.Ev.st_for, DI.Ev.forF_eq, DI.Ev.e_lcomp, DI.Ev.e_dcomp, DI.Ev.compF_eq, DI.Ev.compG_eq, DI.Ev.forX_cons, DI.Ev.forX_nil, DI.Ev.evF_eq, DI.Ev.nxO_some, DI.Ev.asg_var, DI.Ev.asg_tup, DI.Ev.asg_lst, DI.Ev.asgs_nil, DI.Ev.asgs_cons, DI.Ev.obind, DI.Ev.lift_some, DI.Ev.call_some, DI.Ev.bin_add, DI.Ev.bin_sub, DI.Ev.negD_int, DI.Ev.cmp_lt, DI.Ev.cmp_le, DI.Ev.cmp_gt, DI.Ev.cmp_ge, DI.Ev.cmp_eqI, DI.Ev.cmp_neI, DI.Ev.cmp_eqB, DI.Ev.cmp_neB, DI.Ev.cmp_eqT, splD, List.length_cons, List.length_nil, Nat.reduceAdd, Nat.reduceSub, Nat.reduceLeDiff, Nat.reduceLT, Nat.le_refl, List.cons_append, List.nil_append, List.append_nil, List.map_cons, List.map_nil, List.replicate, List.getElem?_cons_zero, List.getElem?_cons_succ, List.getElem?_nil, List.set_cons_zero, List.set_cons_succ, if_true, if_false, ite_true, ite_false, and_self, and_true, true_and, reduceCtorEq, Bool.not_true, Bool.not_false, decide_true, decide_false, maxLen, fnL, e1]
      rw [compX_cons, e0, noX_ok, bind_ok, e, bind_ok]
      rfl
    · rcases List.mem_cons.mp hs with rfl | hs
      · exact hj
      · exact e3 s hs
/-! ### what is compared -/
theorem ne_two {g : G} {m : MS} (p q : Q) : cmpD g .ne (.lst [prq p, prq q]) (.lst [prq p, prq q]) m = .ok (.bl false) m := by
  rw [cmp_neP (p := .list [.tuple [.int p.1, .int p.2], .tuple [.int q.1, .int q.2]]) (q := .list [.tuple [.int p.1, .int p.2], .tuple [.int q.1, .int q.2]]) rfl rfl]
  simp only [PyData.eqv, PyData.eqvAll, beq_self_eq_true, Bool.and_self, Bool.not_true]
theorem toP_prs : ∀ (n : Nat) (qs : List Q), allP (toP (n + 2)) (qs.map prq) = some (qs.map fun q => PyData.tuple [.int q.1, .int q.2])
  | n, [] => rfl
  | n, q :: qs => by
    rw [List.map_cons, allP, toP_prs n qs]
    rfl
theorem eq_nil {g : G} {m : MS} (qs : List Q) : cmpD g .eq (.lst (qs.map prq)) (.lst []) m = .ok (.bl qs.isEmpty) m := by
  rw [cmp_eqP (p := .list (qs.map fun q => PyData.tuple [.int q.1, .int q.2])) (q := .list []) (by
    show (allP (toP 8) (qs.map prq)).map PyData.list = _
    rw [toP_prs 6 qs]; rfl) rfl]
  cases qs with
  | nil => simp only [List.map_nil, PyData.eqv, PyData.eqvAll, List.isEmpty_nil]
  | cons q qs => simp only [List.map_cons, PyData.eqv, PyData.eqvAll, List.isEmpty_cons]
theorem slc_2 {m : MS} (xs : List D) : slcD (.lst xs) none (some 2) m = some (.lst (xs.take 2)) := by
  show some (D.lst (DI.cutD xs none (some 2))) = _
  unfold DI.cutD
  have h1 : HT.sIx xs.length 0 none = 0 := rfl
  have h2 : HT.sIx xs.length xs.length (some 2) = min 2 xs.length := by simp [HT.sIx]
  rw [h1, h2, List.drop_zero, Nat.sub_zero]
  congr 2
  rcases Nat.le_total 2 xs.length with z | z
  · rw [Nat.min_eq_left z]
  · rw [Nat.min_eq_right z, List.take_of_length_le (Nat.le_refl _), List.take_of_length_le z]
/-- values that are no uses -/
theorem odd_ok {d : Int} (h : 0 ≤ d) (h2 : d < 5) : ∃ o : D, (∀ m, idxD (.lst [.int (-1), .int 2, .non, .str "0", .bl true]) (.int d) m = some o) ∧ (∀ m, m_check_use [o] m = .exc ⟨"BadUse", some o⟩ m) ∧ ∀ g m, cmpD g .ne (.lst [o]) (.lst [o]) m = .ok (.bl false) m := by
  obtain ⟨x, hx, e⟩ := atI_mem (xs := [.int (-1), .int 2, .non, .str "0", .bl true]) h h2
  simp only [List.mem_cons, List.not_mem_nil, or_false] at hx
  have ne1 : ∀ {o : D} {p : PyData}, toP 8 o = some p → PyData.eqv p p = true → ∀ g m, cmpD g .ne (.lst [o]) (.lst [o]) m = .ok (.bl false) m := fun {o p} h1 h2 g m => by
    have h3 : toP 9 (.lst [o]) = some (.list [p]) := by
      show (allP (toP 8) [o]).map PyData.list = _
      simp only [allP, h1]
      rfl
    rw [cmp_neP h3 h3]
    simp only [PyData.eqv, PyData.eqvAll, h2, Bool.and_self, Bool.not_true]
  rcases hx with rfl | rfl | rfl | rfl | rfl
  · exact ⟨_, fun m => e, fun m => check_use_no (nu_int (-1)) (sm_of (by decide)) (sm_of (by decide)) (by decide), ne1 (p := .int (-1)) rfl (by simp [PyData.eqv])⟩
  · exact ⟨_, fun m => e, fun m => check_use_no (nu_int 2) (sm_of (by decide)) (sm_of (by decide)) (by decide), ne1 (p := .int 2) rfl (by simp [PyData.eqv])⟩
  · exact ⟨_, fun m => e, fun m => check_use_other (fun m => parts_no (k := .non) (fun _ => rfl) rfl rfl), ne1 (p := .none) rfl (by simp [PyData.eqv])⟩
  · exact ⟨_, fun m => e, fun m => check_use_other (fun m => parts_no (k := .str) (fun _ => rfl) rfl rfl), ne1 (p := .str "0") (by rw [show toP 8 (.str "0") = (if PyData.strOk "0" then some (.str "0") else none) from rfl, if_pos (by decide +kernel)]) (by simp [PyData.eqv])⟩
  · exact ⟨_, fun m => e, fun m => check_use_other (fun m => parts_no (k := .bl) (fun _ => rfl) rfl rfl), ne1 (p := .bool true) rfl (by simp [PyData.eqv])⟩
end K56
end

section
set_option linter.all false
set_option exponentiation.threshold 100000
set_option maxRecDepth 100000
set_option maxHeartbeats 1000000
namespace K56
open PySem L2 DI
open PyProof.Rows hiding St
open DI.Ev
variable {m : MS}
def bodyL : List S := match ir_law with | .for_ _ _ b :: _ => b | _ => []
def ups : S := .asg (.var 4) (.lcomp (.tup [.var 13, .call 3 [.var 15, .tup [.call 2 [.var 2, .con (.int 2)] [], .con (.int 100)]] []]) (.tup [.var 13, .var 15]) (.seq (.var 3)) [])
/-- the two lists of steps -/
theorem stA (ns : List Int) {k : Int} (hk : k = 0 ∨ k = 1) (a2 a3 a4 a5 a6 a7 a8 a9 a10 a11 a12 a13 a14 a15 : Option SV) : ∃ (L1 L2 : List Step) (i : Nat) (m' : MS) (w c q : Int),
    evSs g_law (bodyL.take 4) [some (.sh (.lst (ns.map .int))), some (.sh (.int k)), a2, a3, a4, a5, a6, a7, a8, a9, a10, a11, a12, a13, a14, a15] m = .nx [some (.sh (.lst (ns.map .int))), some (.sh (.int k)), some (.sh (.ref i)), some (.sh (.lst (L1.map lst40))), some (.sh (.lst (L2.map lst40))), a5, a6, a7, a8, a9, a10, a11, a12, a13, a14, a15] m' ∧
    OkS L1 ∧ OkS L2 ∧ Bx m' i w c q ∧ c ≤ 150 := by
  obtain ⟨m1, w1, q, e1, b1⟩ := box_ok ns k (by omega) (by omega) m
  obtain ⟨L1, m2, w2, c2, e2, o1, o30, b2, k2⟩ := law_steps_ok b1 (by omega)
  obtain ⟨L2, m3, w3, c3, e3, o2, _, b3, k3⟩ := law_steps_ok b2 (by omega)
  obtain ⟨d, m4, w4, c4, t4, p1, p1', b4, k4⟩ := take_ok b3 (by omega) (k := 2) (by decide) (sm_of (by decide))
  by_cases hd : d = 0
  · subst hd
    have hn := o1.len
    have hl : (L1.map lst40).length ≤ 100000 := by rw [List.length_map]; omega
    obtain ⟨L', m5, w5, c5, e5, s1, s2, b5, k5⟩ := comp_up (a0 := some (.sh (.lst (ns.map .int)))) (a1 := some (.sh (.int k))) (a3 := some (.sh (.lst (L1.map lst40)))) (a4 := some (.sh (.lst (L2.map lst40)))) (a5 := a5) (a6 := a6) (a7 := a7) (a8 := a8) (a9 := a9) (a10 := a10) (a11 := a11) (a12 := a12) (a13 := a13) (a14 := a14) (a15 := a15) L1 b4 (by omega) (fun p hp => ⟨o30 p hp, (o1.rate p hp).2⟩)
    refine ⟨L1, L', m.length, m5, w5, c5, q, ?_, o1, o1.up s1 s2, b5, by omega⟩
    unfold bodyL ir_law
    simp only [List.take_succ_cons, List.take_zero]
    simp only [DI.Ev.ss_nil, DI.Ev.ss_cons, DI.Ev.st_try, DI.Ev.ee_0, DI.Ev.ee_1, DI.Ev.ee_2, DI.Ev.ee_3, DI.Ev.ee_4, DI.Ev.ee_5, DI.Ev.ee_6, DI.Ev.ee_7, DI.Ev.ee_8, DI.Ev.ee_9, DI.Ev.ee_10, DI.Ev.ee_11, DI.Ev.ee_12, DI.Ev.ee_13, DI.Ev.ee_14, DI.Ev.ee_15, DI.Ev.ee_16, DI.Ev.ee_17, DI.Ev.ee_18, DI.Ev.ee_19, DI.Ev.ee_20, DI.Ev.ee_21, DI.Ev.ee_22, DI.Ev.ee_23, DI.Ev.ee_24, DI.Ev.ee_25, DI.Ev.ee_26, DI.Ev.ee_27, DI.Ev.ee_28, DI.Ev.ee_29, DI.Ev.ee_30, DI.Ev.es_0, DI.Ev.es_1, DI.Ev.eo_0, DI.Ev.eo_1, DI.Ev.ec_0, DI.Ev.ec_1, DI.Ev.ei_0, DI.Ev.ei_1, DI.Ev.ei_2, DI.Ev.ei_3, DI.Ev.ei_4, DI.Ev.ei_5, DI.Ev.ei_6, DI.Ev.st_0, DI.Ev.st_1, DI.Ev.st_2, DI.Ev.st_3, DI.Ev.st_4, DI.Ev.st_5, DI.Ev.st_6, DI.Ev.st_7, DI.Ev.st_8, DI.Ev.st_9, DI.Ev.st_10, DI.Ev.st_11, DI.Ev.st_12, DI.Ev.st_13, DI.Ev.st_14, DI.Ev.st_17, DI.Ev.st_18, DI.Ev.st_19, DI.Ev.st_20, evH, DI.Ev.compX_nil, DI.Ev.compX_cons, DI.Ev.noX_ok, ↓reduceIte, DI.T.slots, DI.T.slotss, DI.wipeS, DI.Ev.bind_ok, DI.Ev.bind_exc, DI.Ev.out_ok, DI.Ev.out_exc, DI.Ev.seq_nx, DI.Ev.seq_ret, DI.Ev.seq_exc, DI.Ev.seq_brk, DI.Ev.seq_ct, DI.Ev.rnd_nx, DI.Ev.rnd_ct, DI.Ev.rnd_brk, DI.Ev.rnd_ret, DI.Ev.rnd_exc, DI.Ev.tr_nx, DI.Ev.tr_ret, DI.Ev.tr_exc, DI.Ev.fin_ret, DI.Ev.fin_nx, DI.Ev.fin_exc, DI.Ev.st_for, DI.Ev.forF_eq, DI.Ev.e_lcomp, DI.Ev.e_dcomp, DI.Ev.compF_eq, DI.Ev.compG_eq, DI.Ev.forX_cons, DI.Ev.forX_nil, DI.Ev.evF_eq, DI.Ev.nxO_some, DI.Ev.asg_var, DI.Ev.asg_tup, DI.Ev.asg_lst, DI.Ev.asgs_nil, DI.Ev.asgs_cons, DI.Ev.obind, DI.Ev.lift_some, DI.Ev.call_some, DI.Ev.bin_add, DI.Ev.bin_sub, DI.Ev.negD_int, DI.Ev.cmp_lt, DI.Ev.cmp_le, DI.Ev.cmp_gt, DI.Ev.cmp_ge, DI.Ev.cmp_eqI, DI.Ev.cmp_neI, DI.Ev.cmp_eqB, DI.Ev.cmp_neB, DI.Ev.cmp_eqT, splD, List.length_cons, List.length_nil, Nat.reduceAdd, Nat.reduceSub, Nat.reduceLeDiff, Nat.reduceLT, Nat.le_refl, List.cons_append, List.nil_append, List.append_nil, List.map_cons, List.map_nil, List.replicate, List.getElem?_cons_zero, List.getElem?_cons_succ, List.getElem?_nil, List.set_cons_zero, List.set_cons_succ, if_true, if_false, ite_true, ite_false, and_self, and_true, true_and, reduceCtorEq, Bool.not_true, Bool.not_false, decide_true, decide_false, maxLen, fnL, e1, e2, e3, t4, it_lst, hl]
    rw [e5]
    simp only [DI.Ev.ss_nil, DI.Ev.ss_cons, DI.Ev.st_try, DI.Ev.ee_0, DI.Ev.ee_1, DI.Ev.ee_2, DI.Ev.ee_3, DI.Ev.ee_4, DI.Ev.ee_5, DI.Ev.ee_6, DI.Ev.ee_7, DI.Ev.ee_8, DI.Ev.ee_9, DI.Ev.ee_10, DI.Ev.ee_11, DI.Ev.ee_12, DI.Ev.ee_13, DI.Ev.ee_14, DI.Ev.ee_15, DI.Ev.ee_16, DI.Ev.ee_17, DI.Ev.ee_18, DI.Ev.ee_19, DI.Ev.ee_20, DI.Ev.ee_21, DI.Ev.ee_22, DI.Ev.ee_23, DI.Ev.ee_24, DI.Ev.ee_25, DI.Ev.ee_26, DI.Ev.ee_27, DI.Ev.ee_28, DI.Ev.ee_29, DI.Ev.ee_30, DI.Ev.es_0, DI.Ev.es_1, DI.Ev.eo_0, DI.Ev.eo_1, DI.Ev.ec_0, DI.Ev.ec_1, DI.Ev.ei_0, DI.Ev.ei_1, DI.Ev.ei_2, DI.Ev.ei_3, DI.Ev.ei_4, DI.Ev.ei_5, DI.Ev.ei_6, DI.Ev.st_0, DI.Ev.st_1, DI.Ev.st_2, DI.Ev.st_3, DI.Ev.st_4, DI.Ev.st_5, DI.Ev.st_6, DI.Ev.st_7, DI.Ev.st_8, DI.Ev.st_9, DI.Ev.st_10, DI.Ev.st_11, DI.Ev.st_12, DI.Ev.st_13, DI.Ev.st_14, DI.Ev.st_17, DI.Ev.st_18, DI.Ev.st_19, DI.Ev.st_20, evH, DI.Ev.compX_nil, DI.Ev.compX_cons, DI.Ev.noX_ok, ↓reduceIte, DI.T.slots, DI.T.slotss, DI.wipeS, DI.Ev.bind_ok, DI.Ev.bind_exc, DI.Ev.out_ok, DI.Ev.out_exc, DI.Ev.seq_nx, DI.Ev.seq_ret, DI.Ev.seq_exc, DI.Ev.seq_brk, DI.Ev.seq_ct, DI.Ev.rnd_nx, DI.Ev.rnd_ct, DI.Ev.rnd_brk, DI.Ev.rnd_ret, DI.Ev.rnd_exc, DI.Ev.tr_nx, DI.Ev.tr_ret, DI.Ev.tr_exc, DI.Ev.fin_ret, DI.Ev.fin_nx, DI.Ev.fin_exc, DI.Ev.st_for, DI.Ev.forF_eq, DI.Ev.e_lcomp, DI.Ev.e_dcomp, DI.Ev.compF_eq, DI.Ev.compG_eq, DI.Ev.forX_cons, DI.Ev.forX_nil, DI.Ev.evF_eq, DI.Ev.nxO_some, DI.Ev.asg_var, DI.Ev.asg_tup, DI.Ev.asg_lst, DI.Ev.asgs_nil, DI.Ev.asgs_cons, DI.Ev.obind, DI.Ev.lift_some, DI.Ev.call_some, DI.Ev.bin_add, DI.Ev.bin_sub, DI.Ev.negD_int, DI.Ev.cmp_lt, DI.Ev.cmp_le, DI.Ev.cmp_gt, DI.Ev.cmp_ge, DI.Ev.cmp_eqI, DI.Ev.cmp_neI, DI.Ev.cmp_eqB, DI.Ev.cmp_neB, DI.Ev.cmp_eqT, splD, List.length_cons, List.length_nil, Nat.reduceAdd, Nat.reduceSub, Nat.reduceLeDiff, Nat.reduceLT, Nat.le_refl, List.cons_append, List.nil_append, List.append_nil, List.map_cons, List.map_nil, List.replicate, List.getElem?_cons_zero, List.getElem?_cons_succ, List.getElem?_nil, List.set_cons_zero, List.set_cons_succ, if_true, if_false, ite_true, ite_false, and_self, and_true, true_and, reduceCtorEq, Bool.not_true, Bool.not_false, decide_true, decide_false, maxLen]
  · refine ⟨L1, L2, m.length, m4, w4, c4, q, ?_, o1, o2, b4, by omega⟩
    unfold bodyL ir_law
    simp only [DI.Ev.ss_nil, DI.Ev.ss_cons, DI.Ev.st_try, DI.Ev.ee_0, DI.Ev.ee_1, DI.Ev.ee_2, DI.Ev.ee_3, DI.Ev.ee_4, DI.Ev.ee_5, DI.Ev.ee_6, DI.Ev.ee_7, DI.Ev.ee_8, DI.Ev.ee_9, DI.Ev.ee_10, DI.Ev.ee_11, DI.Ev.ee_12, DI.Ev.ee_13, DI.Ev.ee_14, DI.Ev.ee_15, DI.Ev.ee_16, DI.Ev.ee_17, DI.Ev.ee_18, DI.Ev.ee_19, DI.Ev.ee_20, DI.Ev.ee_21, DI.Ev.ee_22, DI.Ev.ee_23, DI.Ev.ee_24, DI.Ev.ee_25, DI.Ev.ee_26, DI.Ev.ee_27, DI.Ev.ee_28, DI.Ev.ee_29, DI.Ev.ee_30, DI.Ev.es_0, DI.Ev.es_1, DI.Ev.eo_0, DI.Ev.eo_1, DI.Ev.ec_0, DI.Ev.ec_1, DI.Ev.ei_0, DI.Ev.ei_1, DI.Ev.ei_2, DI.Ev.ei_3, DI.Ev.ei_4, DI.Ev.ei_5, DI.Ev.ei_6, DI.Ev.st_0, DI.Ev.st_1, DI.Ev.st_2, DI.Ev.st_3, DI.Ev.st_4, DI.Ev.st_5, DI.Ev.st_6, DI.Ev.st_7, DI.Ev.st_8, DI.Ev.st_9, DI.Ev.st_10, DI.Ev.st_11, DI.Ev.st_12, DI.Ev.st_13, DI.Ev.st_14, DI.Ev.st_17, DI.Ev.st_18, DI.Ev.st_19, DI.Ev.st_20, evH, DI.Ev.compX_nil, DI.Ev.compX_cons, DI.Ev.noX_ok, ↓reduceIte, DI.T.slots, DI.T.slotss, DI.wipeS, DI.Ev.bind_ok, DI.Ev.bind_exc, DI.Ev.out_ok, DI.Ev.out_exc, DI.Ev.seq_nx, DI.Ev.seq_ret, DI.Ev.seq_exc, DI.Ev.seq_brk, DI.Ev.seq_ct, DI.Ev.rnd_nx, DI.Ev.rnd_ct, DI.Ev.rnd_brk, DI.Ev.rnd_ret, DI.Ev.rnd_exc, DI.Ev.tr_nx, DI.Ev.tr_ret, DI.Ev.tr_exc, DI.Ev.fin_ret, DI.Ev.fin_nx, DI.Ev.fin_exc, DI.Ev.st_for, DI.Ev.forF_eq, DI.Ev.e_lcomp, DI.Ev.e_dcomp, DI.Ev.compF_eq, DI.Ev.compG_eq, DI.Ev.forX_cons, DI.Ev.forX_nil, DI.Ev.evF_eq, DI.Ev.nxO_some, DI.Ev.asg_var, DI.Ev.asg_tup, DI.Ev.asg_lst, DI.Ev.asgs_nil, DI.Ev.asgs_cons, DI.Ev.obind, DI.Ev.lift_some, DI.Ev.call_some, DI.Ev.bin_add, DI.Ev.bin_sub, DI.Ev.negD_int, DI.Ev.cmp_lt, DI.Ev.cmp_le, DI.Ev.cmp_gt, DI.Ev.cmp_ge, DI.Ev.cmp_eqI, DI.Ev.cmp_neI, DI.Ev.cmp_eqB, DI.Ev.cmp_neB, DI.Ev.cmp_eqT, splD, List.length_cons, List.length_nil, Nat.reduceAdd, Nat.reduceSub, Nat.reduceLeDiff, Nat.reduceLT, Nat.le_refl, List.cons_append, List.nil_append, List.append_nil, List.map_cons, List.map_nil, List.replicate, List.getElem?_cons_zero, List.getElem?_cons_succ, List.getElem?_nil, List.set_cons_zero, List.set_cons_succ, if_true, if_false, ite_true, ite_false, and_self, and_true, true_and, reduceCtorEq, Bool.not_true, Bool.not_false, decide_true, decide_false, maxLen, List.take_succ_cons, List.take_zero, fnL, e1, e2, e3, t4, hd]
theorem hand_ok (j : Int) (hj : 0 ≤ j ∧ j ≤ 40) {σ : Sl} {m : MS} {a0 a1 a2 a3 a4 a5 a6 a7 a8 a9 a10 a11 a12 a13 a14 a15 : Option SV} : compF g_law (.var 13) [] (.ite (.cmp .eq (.idx (.var 13) (.con (.int 1))) (.con (.int 1))) (.idx (.var 13) (.con (.int 0))) (.call 6 [.var 13] [])) [a0, a1, a2, a3, a4, a5, a6, a7, a8, a9, a10, a11, a12, a13, a14, a15] (prq (uq j)) m = .ok (some (hD j)) m := by
  have r : ∀ m, m__law_ratio [prq (uq j)] m = .ok (raq (uq j)) m := fun m => ratio_ok (uq_ok hj) (by decide)
  have p1 : ∀ m, idxD (prq (uq j)) (.int 1) m = some (.int (uq j).2) := fun m => atI_1 _ _ _
  have p0 : ∀ m, idxD (prq (uq j)) (.int 0) m = some (.int (uq j).1) := fun m => atI_0 _ _
  unfold hD
  by_cases z : (uq j).2 = 1
  · simp only [DI.Ev.ss_nil, DI.Ev.ss_cons, DI.Ev.st_try, DI.Ev.ee_0, DI.Ev.ee_1, DI.Ev.ee_2, DI.Ev.ee_3, DI.Ev.ee_4, DI.Ev.ee_5, DI.Ev.ee_6, DI.Ev.ee_7, DI.Ev.ee_8, DI.Ev.ee_9, DI.Ev.ee_10, DI.Ev.ee_11, DI.Ev.ee_12, DI.Ev.ee_13, DI.Ev.ee_14, DI.Ev.ee_15, DI.Ev.ee_16, DI.Ev.ee_17, DI.Ev.ee_18, DI.Ev.ee_19, DI.Ev.ee_20, DI.Ev.ee_21, DI.Ev.ee_22, DI.Ev.ee_23, DI.Ev.ee_24, DI.Ev.ee_25, DI.Ev.ee_26, DI.Ev.ee_27, DI.Ev.ee_28, DI.Ev.ee_29, DI.Ev.ee_30, DI.Ev.es_0, DI.Ev.es_1, DI.Ev.eo_0, DI.Ev.eo_1, DI.Ev.ec_0, DI.Ev.ec_1, DI.Ev.ei_0, DI.Ev.ei_1, DI.Ev.ei_2, DI.Ev.ei_3, DI.Ev.ei_4, DI.Ev.ei_5, DI.Ev.ei_6, DI.Ev.st_0, DI.Ev.st_1, DI.Ev.st_2, DI.Ev.st_3, DI.Ev.st_4, DI.Ev.st_5, DI.Ev.st_6, DI.Ev.st_7, DI.Ev.st_8, DI.Ev.st_9, DI.Ev.st_10, DI.Ev.st_11, DI.Ev.st_12, DI.Ev.st_13, DI.Ev.st_14, DI.Ev.st_17, DI.Ev.st_18, DI.Ev.st_19, DI.Ev.st_20, evH, DI.Ev.compX_nil, DI.Ev.compX_cons, DI.Ev.noX_ok, ↓reduceIte, DI.T.slots, DI.T.slotss, DI.wipeS, DI.Ev.bind_ok, DI.Ev.bind_exc, DI.Ev.out_ok, DI.Ev.out_exc, DI.Ev.seq_nx, DI.Ev.seq_ret, DI.Ev.seq_exc, DI.Ev.seq_brk, DI.Ev.seq_ct, DI.Ev.rnd_nx, DI.Ev.rnd_ct, DI.Ev.rnd_brk, DI.Ev.rnd_ret, DI.Ev.rnd_exc, DI.Ev.tr_nx, DI.Ev.tr_ret, DI.Ev.tr_exc, DI.Ev.fin_ret, DI.Ev.fin_nx, DI.Ev.fin_exc, DI.Ev.st_for, DI.Ev.forF_eq, DI.Ev.e_lcomp, DI.Ev.e_dcomp, DI.Ev.compF_eq, DI.Ev.compG_eq, DI.Ev.forX_cons, DI.Ev.forX_nil, DI.Ev.evF_eq, DI.Ev.nxO_some, DI.Ev.asg_var, DI.Ev.asg_tup, DI.Ev.asg_lst, DI.Ev.asgs_nil, DI.Ev.asgs_cons, DI.Ev.obind, DI.Ev.lift_some, DI.Ev.call_some, DI.Ev.bin_add, DI.Ev.bin_sub, DI.Ev.negD_int, DI.Ev.cmp_lt, DI.Ev.cmp_le, DI.Ev.cmp_gt, DI.Ev.cmp_ge, DI.Ev.cmp_eqI, DI.Ev.cmp_neI, DI.Ev.cmp_eqB, DI.Ev.cmp_neB, DI.Ev.cmp_eqT, splD, List.length_cons, List.length_nil, Nat.reduceAdd, Nat.reduceSub, Nat.reduceLeDiff, Nat.reduceLT, Nat.le_refl, List.cons_append, List.nil_append, List.append_nil, List.map_cons, List.map_nil, List.replicate, List.getElem?_cons_zero, List.getElem?_cons_succ, List.getElem?_nil, List.set_cons_zero, List.set_cons_succ, if_true, if_false, ite_true, ite_false, and_self, and_true, true_and, reduceCtorEq, Bool.not_true, Bool.not_false, decide_true, decide_false, maxLen, p1, p0, z]
  · simp only [DI.Ev.ss_nil, DI.Ev.ss_cons, DI.Ev.st_try, DI.Ev.ee_0, DI.Ev.ee_1, DI.Ev.ee_2, DI.Ev.ee_3, DI.Ev.ee_4, DI.Ev.ee_5, DI.Ev.ee_6, DI.Ev.ee_7, DI.Ev.ee_8, DI.Ev.ee_9, DI.Ev.ee_10, DI.Ev.ee_11, DI.Ev.ee_12, DI.Ev.ee_13, DI.Ev.ee_14, DI.Ev.ee_15, DI.Ev.ee_16, DI.Ev.ee_17, DI.Ev.ee_18, DI.Ev.ee_19, DI.Ev.ee_20, DI.Ev.ee_21, DI.Ev.ee_22, DI.Ev.ee_23, DI.Ev.ee_24, DI.Ev.ee_25, DI.Ev.ee_26, DI.Ev.ee_27, DI.Ev.ee_28, DI.Ev.ee_29, DI.Ev.ee_30, DI.Ev.es_0, DI.Ev.es_1, DI.Ev.eo_0, DI.Ev.eo_1, DI.Ev.ec_0, DI.Ev.ec_1, DI.Ev.ei_0, DI.Ev.ei_1, DI.Ev.ei_2, DI.Ev.ei_3, DI.Ev.ei_4, DI.Ev.ei_5, DI.Ev.ei_6, DI.Ev.st_0, DI.Ev.st_1, DI.Ev.st_2, DI.Ev.st_3, DI.Ev.st_4, DI.Ev.st_5, DI.Ev.st_6, DI.Ev.st_7, DI.Ev.st_8, DI.Ev.st_9, DI.Ev.st_10, DI.Ev.st_11, DI.Ev.st_12, DI.Ev.st_13, DI.Ev.st_14, DI.Ev.st_17, DI.Ev.st_18, DI.Ev.st_19, DI.Ev.st_20, evH, DI.Ev.compX_nil, DI.Ev.compX_cons, DI.Ev.noX_ok, ↓reduceIte, DI.T.slots, DI.T.slotss, DI.wipeS, DI.Ev.bind_ok, DI.Ev.bind_exc, DI.Ev.out_ok, DI.Ev.out_exc, DI.Ev.seq_nx, DI.Ev.seq_ret, DI.Ev.seq_exc, DI.Ev.seq_brk, DI.Ev.seq_ct, DI.Ev.rnd_nx, DI.Ev.rnd_ct, DI.Ev.rnd_brk, DI.Ev.rnd_ret, DI.Ev.rnd_exc, DI.Ev.tr_nx, DI.Ev.tr_ret, DI.Ev.tr_exc, DI.Ev.fin_ret, DI.Ev.fin_nx, DI.Ev.fin_exc, DI.Ev.st_for, DI.Ev.forF_eq, DI.Ev.e_lcomp, DI.Ev.e_dcomp, DI.Ev.compF_eq, DI.Ev.compG_eq, DI.Ev.forX_cons, DI.Ev.forX_nil, DI.Ev.evF_eq, DI.Ev.nxO_some, DI.Ev.asg_var, DI.Ev.asg_tup, DI.Ev.asg_lst, DI.Ev.asgs_nil, DI.Ev.asgs_cons, DI.Ev.obind, DI.Ev.lift_some, DI.Ev.call_some, DI.Ev.bin_add, DI.Ev.bin_sub, DI.Ev.negD_int, DI.Ev.cmp_lt, DI.Ev.cmp_le, DI.Ev.cmp_gt, DI.Ev.cmp_ge, DI.Ev.cmp_eqI, DI.Ev.cmp_neI, DI.Ev.cmp_eqB, DI.Ev.cmp_neB, DI.Ev.cmp_eqT, splD, List.length_cons, List.length_nil, Nat.reduceAdd, Nat.reduceSub, Nat.reduceLeDiff, Nat.reduceLT, Nat.le_refl, List.cons_append, List.nil_append, List.append_nil, List.map_cons, List.map_nil, List.replicate, List.getElem?_cons_zero, List.getElem?_cons_succ, List.getElem?_nil, List.set_cons_zero, List.set_cons_succ, if_true, if_false, ite_true, ite_false, and_self, and_true, true_and, reduceCtorEq, Bool.not_true, Bool.not_false, decide_true, decide_false, maxLen, p1, p0, z, fnL, r]
/-- rules, uses, what is handed in -/
theorem stB {L1 L2 : List Step} (o1 : OkS L1) (o2 : OkS L2) {a0 a1 : Option SV} {i : Nat} {w c q : Int} (b : Bx m i w c q) (hc : c ≤ 150) (a5 a6 a7 a8 a9 a10 a11 a12 a13 a14 a15 : Option SV) : ∃ (js : List Int) (m' : MS) (w' c' : Int),
    evSs g_law ((bodyL.drop 4).take 4) [a0, a1, some (.sh (.ref i)), some (.sh (.lst (L1.map lst40))), some (.sh (.lst (L2.map lst40))), a5, a6, a7, a8, a9, a10, a11, a12, a13, a14, a15] m = .nx [a0, a1, some (.sh (.ref i)), some (.sh (.lst (L1.map lst40))), some (.sh (.lst (L2.map lst40))), some (.sh (rul (few [] L1))), some (.sh (rul (few [] L2))), some (.sh (.lst (js.map fun j => prq (uq j)))), some (.sh (.lst (js.map hD))), a9, a10, a11, a12, a13, a14, a15] m' ∧
    (∀ j ∈ js, 0 ≤ j ∧ j ≤ 40) ∧ js.length ≤ 20 ∧ Bx m' i w' c' q ∧ c' ≤ 250 := by
  obtain ⟨d, m4, w4, c4, t4, p1, p1', b4, k4⟩ := take_ok b (by omega) (k := 11) (by decide) (sm_of (by decide))
  obtain ⟨xs, ex, lx⟩ := rng_len (n := d) (by omega)
  have hxs : xs.length ≤ 100000 := by omega
  obtain ⟨js, m5, w5, c5, e5, s1, s2, b5, k5⟩ := comp_use (a0 := a0) (a1 := a1) (a4 := some (.sh (.lst (L2.map lst40)))) (a5 := some (.sh (rul (few [] L1)))) (a6 := some (.sh (rul (few [] L2)))) (a7 := a7) (a8 := a8) (a9 := a9) (a10 := a10) (a11 := a11) (a12 := a12) (a13 := a13) (a14 := a14) (a15 := a15) o1 xs b4 (by omega)
  have hjs : (js.map fun j => prq (uq j)).length ≤ 100000 := by rw [List.length_map]; omega
  refine ⟨js, m5, w5, c5, ?_, s2, by omega, b5, by omega⟩
  unfold bodyL ir_law
  simp only [List.drop_succ_cons, List.drop_zero, List.take_succ_cons, List.take_zero]
  simp only [DI.Ev.ss_nil, DI.Ev.ss_cons, DI.Ev.st_try, DI.Ev.ee_0, DI.Ev.ee_1, DI.Ev.ee_2, DI.Ev.ee_3, DI.Ev.ee_4, DI.Ev.ee_5, DI.Ev.ee_6, DI.Ev.ee_7, DI.Ev.ee_8, DI.Ev.ee_9, DI.Ev.ee_10, DI.Ev.ee_11, DI.Ev.ee_12, DI.Ev.ee_13, DI.Ev.ee_14, DI.Ev.ee_15, DI.Ev.ee_16, DI.Ev.ee_17, DI.Ev.ee_18, DI.Ev.ee_19, DI.Ev.ee_20, DI.Ev.ee_21, DI.Ev.ee_22, DI.Ev.ee_23, DI.Ev.ee_24, DI.Ev.ee_25, DI.Ev.ee_26, DI.Ev.ee_27, DI.Ev.ee_28, DI.Ev.ee_29, DI.Ev.ee_30, DI.Ev.es_0, DI.Ev.es_1, DI.Ev.eo_0, DI.Ev.eo_1, DI.Ev.ec_0, DI.Ev.ec_1, DI.Ev.ei_0, DI.Ev.ei_1, DI.Ev.ei_2, DI.Ev.ei_3, DI.Ev.ei_4, DI.Ev.ei_5, DI.Ev.ei_6, DI.Ev.st_0, DI.Ev.st_1, DI.Ev.st_2, DI.Ev.st_3, DI.Ev.st_4, DI.Ev.st_5, DI.Ev.st_6, DI.Ev.st_7, DI.Ev.st_8, DI.Ev.st_9, DI.Ev.st_10, DI.Ev.st_11, DI.Ev.st_12, DI.Ev.st_13, DI.Ev.st_14, DI.Ev.st_17, DI.Ev.st_18, DI.Ev.st_19, DI.Ev.st_20, evH, DI.Ev.compX_nil, DI.Ev.compX_cons, DI.Ev.noX_ok, ↓reduceIte, DI.T.slots, DI.T.slotss, DI.wipeS, DI.Ev.bind_ok, DI.Ev.bind_exc, DI.Ev.out_ok, DI.Ev.out_exc, DI.Ev.seq_nx, DI.Ev.seq_ret, DI.Ev.seq_exc, DI.Ev.seq_brk, DI.Ev.seq_ct, DI.Ev.rnd_nx, DI.Ev.rnd_ct, DI.Ev.rnd_brk, DI.Ev.rnd_ret, DI.Ev.rnd_exc, DI.Ev.tr_nx, DI.Ev.tr_ret, DI.Ev.tr_exc, DI.Ev.fin_ret, DI.Ev.fin_nx, DI.Ev.fin_exc, DI.Ev.st_for, DI.Ev.forF_eq, DI.Ev.e_lcomp, DI.Ev.e_dcomp, DI.Ev.compF_eq, DI.Ev.compG_eq, DI.Ev.forX_cons, DI.Ev.forX_nil, DI.Ev.evF_eq, DI.Ev.nxO_some, DI.Ev.asg_var, DI.Ev.asg_tup, DI.Ev.asg_lst, DI.Ev.asgs_nil, DI.Ev.asgs_cons, DI.Ev.obind, DI.Ev.lift_some, DI.Ev.call_some, DI.Ev.bin_add, DI.Ev.bin_sub, DI.Ev.negD_int, DI.Ev.cmp_lt, DI.Ev.cmp_le, DI.Ev.cmp_gt, DI.Ev.cmp_ge, DI.Ev.cmp_eqI, DI.Ev.cmp_neI, DI.Ev.cmp_eqB, DI.Ev.cmp_neB, DI.Ev.cmp_eqT, splD, List.length_cons, List.length_nil, Nat.reduceAdd, Nat.reduceSub, Nat.reduceLeDiff, Nat.reduceLT, Nat.le_refl, List.cons_append, List.nil_append, List.append_nil, List.map_cons, List.map_nil, List.replicate, List.getElem?_cons_zero, List.getElem?_cons_succ, List.getElem?_nil, List.set_cons_zero, List.set_cons_succ, if_true, if_false, ite_true, ite_false, and_self, and_true, true_and, reduceCtorEq, Bool.not_true, Bool.not_false, decide_true, decide_false, maxLen, fnL, law_rule_ok o1, law_rule_ok o2, t4, ex, hxs]
  rw [e5]
  simp only [DI.Ev.ss_nil, DI.Ev.ss_cons, DI.Ev.st_try, DI.Ev.ee_0, DI.Ev.ee_1, DI.Ev.ee_2, DI.Ev.ee_3, DI.Ev.ee_4, DI.Ev.ee_5, DI.Ev.ee_6, DI.Ev.ee_7, DI.Ev.ee_8, DI.Ev.ee_9, DI.Ev.ee_10, DI.Ev.ee_11, DI.Ev.ee_12, DI.Ev.ee_13, DI.Ev.ee_14, DI.Ev.ee_15, DI.Ev.ee_16, DI.Ev.ee_17, DI.Ev.ee_18, DI.Ev.ee_19, DI.Ev.ee_20, DI.Ev.ee_21, DI.Ev.ee_22, DI.Ev.ee_23, DI.Ev.ee_24, DI.Ev.ee_25, DI.Ev.ee_26, DI.Ev.ee_27, DI.Ev.ee_28, DI.Ev.ee_29, DI.Ev.ee_30, DI.Ev.es_0, DI.Ev.es_1, DI.Ev.eo_0, DI.Ev.eo_1, DI.Ev.ec_0, DI.Ev.ec_1, DI.Ev.ei_0, DI.Ev.ei_1, DI.Ev.ei_2, DI.Ev.ei_3, DI.Ev.ei_4, DI.Ev.ei_5, DI.Ev.ei_6, DI.Ev.st_0, DI.Ev.st_1, DI.Ev.st_2, DI.Ev.st_3, DI.Ev.st_4, DI.Ev.st_5, DI.Ev.st_6, DI.Ev.st_7, DI.Ev.st_8, DI.Ev.st_9, DI.Ev.st_10, DI.Ev.st_11, DI.Ev.st_12, DI.Ev.st_13, DI.Ev.st_14, DI.Ev.st_17, DI.Ev.st_18, DI.Ev.st_19, DI.Ev.st_20, evH, DI.Ev.compX_nil, DI.Ev.compX_cons, DI.Ev.noX_ok, ↓reduceIte, DI.T.slots, DI.T.slotss, DI.wipeS, DI.Ev.bind_ok, DI.Ev.bind_exc, DI.Ev.out_ok, DI.Ev.out_exc, DI.Ev.seq_nx, DI.Ev.seq_ret, DI.Ev.seq_exc, DI.Ev.seq_brk, DI.Ev.seq_ct, DI.Ev.rnd_nx, DI.Ev.rnd_ct, DI.Ev.rnd_brk, DI.Ev.rnd_ret, DI.Ev.rnd_exc, DI.Ev.tr_nx, DI.Ev.tr_ret, DI.Ev.tr_exc, DI.Ev.fin_ret, DI.Ev.fin_nx, DI.Ev.fin_exc, DI.Ev.st_for, DI.Ev.forF_eq, DI.Ev.e_lcomp, DI.Ev.e_dcomp, DI.Ev.compF_eq, DI.Ev.compG_eq, DI.Ev.forX_cons, DI.Ev.forX_nil, DI.Ev.evF_eq, DI.Ev.nxO_some, DI.Ev.asg_var, DI.Ev.asg_tup, DI.Ev.asg_lst, DI.Ev.asgs_nil, DI.Ev.asgs_cons, DI.Ev.obind, DI.Ev.lift_some, DI.Ev.call_some, DI.Ev.bin_add, DI.Ev.bin_sub, DI.Ev.negD_int, DI.Ev.cmp_lt, DI.Ev.cmp_le, DI.Ev.cmp_gt, DI.Ev.cmp_ge, DI.Ev.cmp_eqI, DI.Ev.cmp_neI, DI.Ev.cmp_eqB, DI.Ev.cmp_neB, DI.Ev.cmp_eqT, splD, List.length_cons, List.length_nil, Nat.reduceAdd, Nat.reduceSub, Nat.reduceLeDiff, Nat.reduceLT, Nat.le_refl, List.cons_append, List.nil_append, List.append_nil, List.map_cons, List.map_nil, List.replicate, List.getElem?_cons_zero, List.getElem?_cons_succ, List.getElem?_nil, List.set_cons_zero, List.set_cons_succ, if_true, if_false, ite_true, ite_false, and_self, and_true, true_and, reduceCtorEq, Bool.not_true, Bool.not_false, decide_true, decide_false, maxLen, it_lst, hjs]
  rw [comp_all hD (fun j hj => hand_ok (σ := []) j (s2 j hj))]
  simp only [DI.Ev.ss_nil, DI.Ev.ss_cons, DI.Ev.st_try, DI.Ev.ee_0, DI.Ev.ee_1, DI.Ev.ee_2, DI.Ev.ee_3, DI.Ev.ee_4, DI.Ev.ee_5, DI.Ev.ee_6, DI.Ev.ee_7, DI.Ev.ee_8, DI.Ev.ee_9, DI.Ev.ee_10, DI.Ev.ee_11, DI.Ev.ee_12, DI.Ev.ee_13, DI.Ev.ee_14, DI.Ev.ee_15, DI.Ev.ee_16, DI.Ev.ee_17, DI.Ev.ee_18, DI.Ev.ee_19, DI.Ev.ee_20, DI.Ev.ee_21, DI.Ev.ee_22, DI.Ev.ee_23, DI.Ev.ee_24, DI.Ev.ee_25, DI.Ev.ee_26, DI.Ev.ee_27, DI.Ev.ee_28, DI.Ev.ee_29, DI.Ev.ee_30, DI.Ev.es_0, DI.Ev.es_1, DI.Ev.eo_0, DI.Ev.eo_1, DI.Ev.ec_0, DI.Ev.ec_1, DI.Ev.ei_0, DI.Ev.ei_1, DI.Ev.ei_2, DI.Ev.ei_3, DI.Ev.ei_4, DI.Ev.ei_5, DI.Ev.ei_6, DI.Ev.st_0, DI.Ev.st_1, DI.Ev.st_2, DI.Ev.st_3, DI.Ev.st_4, DI.Ev.st_5, DI.Ev.st_6, DI.Ev.st_7, DI.Ev.st_8, DI.Ev.st_9, DI.Ev.st_10, DI.Ev.st_11, DI.Ev.st_12, DI.Ev.st_13, DI.Ev.st_14, DI.Ev.st_17, DI.Ev.st_18, DI.Ev.st_19, DI.Ev.st_20, evH, DI.Ev.compX_nil, DI.Ev.compX_cons, DI.Ev.noX_ok, ↓reduceIte, DI.T.slots, DI.T.slotss, DI.wipeS, DI.Ev.bind_ok, DI.Ev.bind_exc, DI.Ev.out_ok, DI.Ev.out_exc, DI.Ev.seq_nx, DI.Ev.seq_ret, DI.Ev.seq_exc, DI.Ev.seq_brk, DI.Ev.seq_ct, DI.Ev.rnd_nx, DI.Ev.rnd_ct, DI.Ev.rnd_brk, DI.Ev.rnd_ret, DI.Ev.rnd_exc, DI.Ev.tr_nx, DI.Ev.tr_ret, DI.Ev.tr_exc, DI.Ev.fin_ret, DI.Ev.fin_nx, DI.Ev.fin_exc, DI.Ev.st_for, DI.Ev.forF_eq, DI.Ev.e_lcomp, DI.Ev.e_dcomp, DI.Ev.compF_eq, DI.Ev.compG_eq, DI.Ev.forX_cons, DI.Ev.forX_nil, DI.Ev.evF_eq, DI.Ev.nxO_some, DI.Ev.asg_var, DI.Ev.asg_tup, DI.Ev.asg_lst, DI.Ev.asgs_nil, DI.Ev.asgs_cons, DI.Ev.obind, DI.Ev.lift_some, DI.Ev.call_some, DI.Ev.bin_add, DI.Ev.bin_sub, DI.Ev.negD_int, DI.Ev.cmp_lt, DI.Ev.cmp_le, DI.Ev.cmp_gt, DI.Ev.cmp_ge, DI.Ev.cmp_eqI, DI.Ev.cmp_neI, DI.Ev.cmp_eqB, DI.Ev.cmp_neB, DI.Ev.cmp_eqT, splD, List.length_cons, List.length_nil, Nat.reduceAdd, Nat.reduceSub, Nat.reduceLeDiff, Nat.reduceLT, Nat.le_refl, List.cons_append, List.nil_append, List.append_nil, List.map_cons, List.map_nil, List.replicate, List.getElem?_cons_zero, List.getElem?_cons_succ, List.getElem?_nil, List.set_cons_zero, List.set_cons_succ, if_true, if_false, ite_true, ite_false, and_self, and_true, true_and, reduceCtorEq, Bool.not_true, Bool.not_false, decide_true, decide_false, maxLen]
/-- what the rules tell of the rows of uses -/
theorem stC {L1 L2 : List Step} (o1 : OkS L1) (o2 : OkS L2) {js : List Int} (hj : ∀ j ∈ js, 0 ≤ j ∧ j ≤ 40) (hl : js.length ≤ 20) {a0 a1 a2 a9 a10 a11 a12 a13 a14 a15 : Option SV} : ∃ b9,
    evSs g_law ((bodyL.drop 8).take 4) [a0, a1, a2, some (.sh (.lst (L1.map lst40))), some (.sh (.lst (L2.map lst40))), some (.sh (rul (few [] L1))), some (.sh (rul (few [] L2))), some (.sh (.lst (js.map fun j => prq (uq j)))), some (.sh (.lst (js.map hD))), a9, a10, a11, a12, a13, a14, a15] m = .nx [a0, a1, a2, some (.sh (.lst (L1.map lst40))), some (.sh (.lst (L2.map lst40))), some (.sh (rul (few [] L1))), some (.sh (rul (few [] L2))), some (.sh (.lst (js.map fun j => prq (uq j)))), some (.sh (.lst (js.map hD))), b9, a10, a11, a12, a13, a14, a15] m := by
  have hj2 : ∀ j ∈ js.take 2, 0 ≤ j ∧ j ≤ 40 := fun j h => hj j (List.mem_of_mem_take h)
  have hl2 : (js.take 2).length ≤ 20 := by rw [List.length_take]; omega
  have d1 : ∀ m, m_dearer [rul (few [] L1), rul (few [] L2), .lst (js.map hD)] m = .ok (.tup [raq (grown L1 (1, 1) js), raq (grown L2 (1, 1) js)]) m := fun m => by rw [dearer_ok o1.rof o2.rof hj hl, grown_few o1, grown_few o2]
  have d2 : ∀ m, m_dearer [rul (few [] L2), rul (few [] L1), .lst ((js.take 2).map hD)] m = .ok (.tup [raq (grown L2 (1, 1) (js.take 2)), raq (grown L1 (1, 1) (js.take 2))]) m := fun m => by rw [dearer_ok o2.rof o1.rof hj2 hl2, grown_few o1, grown_few o2]
  have g1 : ∀ m, m__law_grown [.lst (L1.map lst40), .lst (js.map fun j => prq (uq j))] m = .ok (prq (grown L1 (1, 1) js)) m := fun m => grown_ok o1 hj hl
  have g2 : ∀ m, m__law_grown [.lst (L2.map lst40), .lst (js.map fun j => prq (uq j))] m = .ok (prq (grown L2 (1, 1) js)) m := fun m => grown_ok o2 hj hl
  have g3 : ∀ m, m__law_grown [.lst (L1.map lst40), .lst ((js.take 2).map fun j => prq (uq j))] m = .ok (prq (grown L1 (1, 1) (js.take 2))) m := fun m => grown_ok o1 hj2 hl2
  have g4 : ∀ m, m__law_grown [.lst (L2.map lst40), .lst ((js.take 2).map fun j => prq (uq j))] m = .ok (prq (grown L2 (1, 1) (js.take 2))) m := fun m => grown_ok o2 hj2 hl2
  have t1 : (js.map hD).take 2 = (js.take 2).map hD := (List.map_take ..).symm
  have t2 : (js.map fun j => prq (uq j)).take 2 = (js.take 2).map fun j => prq (uq j) := (List.map_take ..).symm
  refine ⟨some (.sh (.tup [raq (grown L1 (1, 1) js), raq (grown L2 (1, 1) js)])), ?_⟩
  unfold bodyL ir_law
  simp only [List.drop_succ_cons, List.drop_zero, List.take_succ_cons, List.take_zero]
  simp only [DI.Ev.ss_nil, DI.Ev.ss_cons, DI.Ev.st_try, DI.Ev.ee_0, DI.Ev.ee_1, DI.Ev.ee_2, DI.Ev.ee_3, DI.Ev.ee_4, DI.Ev.ee_5, DI.Ev.ee_6, DI.Ev.ee_7, DI.Ev.ee_8, DI.Ev.ee_9, DI.Ev.ee_10, DI.Ev.ee_11, DI.Ev.ee_12, DI.Ev.ee_13, DI.Ev.ee_14, DI.Ev.ee_15, DI.Ev.ee_16, DI.Ev.ee_17, DI.Ev.ee_18, DI.Ev.ee_19, DI.Ev.ee_20, DI.Ev.ee_21, DI.Ev.ee_22, DI.Ev.ee_23, DI.Ev.ee_24, DI.Ev.ee_25, DI.Ev.ee_26, DI.Ev.ee_27, DI.Ev.ee_28, DI.Ev.ee_29, DI.Ev.ee_30, DI.Ev.es_0, DI.Ev.es_1, DI.Ev.eo_0, DI.Ev.eo_1, DI.Ev.ec_0, DI.Ev.ec_1, DI.Ev.ei_0, DI.Ev.ei_1, DI.Ev.ei_2, DI.Ev.ei_3, DI.Ev.ei_4, DI.Ev.ei_5, DI.Ev.ei_6, DI.Ev.st_0, DI.Ev.st_1, DI.Ev.st_2, DI.Ev.st_3, DI.Ev.st_4, DI.Ev.st_5, DI.Ev.st_6, DI.Ev.st_7, DI.Ev.st_8, DI.Ev.st_9, DI.Ev.st_10, DI.Ev.st_11, DI.Ev.st_12, DI.Ev.st_13, DI.Ev.st_14, DI.Ev.st_17, DI.Ev.st_18, DI.Ev.st_19, DI.Ev.st_20, evH, DI.Ev.compX_nil, DI.Ev.compX_cons, DI.Ev.noX_ok, ↓reduceIte, DI.T.slots, DI.T.slotss, DI.wipeS, DI.Ev.bind_ok, DI.Ev.bind_exc, DI.Ev.out_ok, DI.Ev.out_exc, DI.Ev.seq_nx, DI.Ev.seq_ret, DI.Ev.seq_exc, DI.Ev.seq_brk, DI.Ev.seq_ct, DI.Ev.rnd_nx, DI.Ev.rnd_ct, DI.Ev.rnd_brk, DI.Ev.rnd_ret, DI.Ev.rnd_exc, DI.Ev.tr_nx, DI.Ev.tr_ret, DI.Ev.tr_exc, DI.Ev.fin_ret, DI.Ev.fin_nx, DI.Ev.fin_exc, DI.Ev.st_for, DI.Ev.forF_eq, DI.Ev.e_lcomp, DI.Ev.e_dcomp, DI.Ev.compF_eq, DI.Ev.compG_eq, DI.Ev.forX_cons, DI.Ev.forX_nil, DI.Ev.evF_eq, DI.Ev.nxO_some, DI.Ev.asg_var, DI.Ev.asg_tup, DI.Ev.asg_lst, DI.Ev.asgs_nil, DI.Ev.asgs_cons, DI.Ev.obind, DI.Ev.lift_some, DI.Ev.call_some, DI.Ev.bin_add, DI.Ev.bin_sub, DI.Ev.negD_int, DI.Ev.cmp_lt, DI.Ev.cmp_le, DI.Ev.cmp_gt, DI.Ev.cmp_ge, DI.Ev.cmp_eqI, DI.Ev.cmp_neI, DI.Ev.cmp_eqB, DI.Ev.cmp_neB, DI.Ev.cmp_eqT, splD, List.length_cons, List.length_nil, Nat.reduceAdd, Nat.reduceSub, Nat.reduceLeDiff, Nat.reduceLT, Nat.le_refl, List.cons_append, List.nil_append, List.append_nil, List.map_cons, List.map_nil, List.replicate, List.getElem?_cons_zero, List.getElem?_cons_succ, List.getElem?_nil, List.set_cons_zero, List.set_cons_succ, if_true, if_false, ite_true, ite_false, and_self, and_true, true_and, reduceCtorEq, Bool.not_true, Bool.not_false, decide_true, decide_false, maxLen, fnL, d1, d2, g1, g2, g3, g4, row_ok, ne_two, bi_len, List.length_map, slc_2, t1, t2]
end K56
end

section
set_option linter.all false
set_option exponentiation.threshold 100000
set_option maxRecDepth 100000
set_option maxHeartbeats 1000000
namespace K56
open PySem L2 DI
open PyProof.Rows hiding St
open DI.Ev
variable {m : MS}
theorem ltAt_self (A : List Step) (j : Int) : ltAt A A j = false := by
  unfold ltAt ltq
  simp
theorem never_self {A : List Step} (hA : RO A) (m : MS) : m_never_dearer [rul A, rul A] m = .ok (.bl true) m := by
  rcases never_ok hA hA m with ⟨p, _, h, _⟩ | ⟨_, h, _⟩
  · rw [ltAt_self] at h; cases h
  · exact h
/-- where one rule is dearer -/
theorem stD {L1 L2 : List Step} (o1 : OkS L1) (o2 : OkS L2) {a0 a1 a2 a7 a8 a9 a10 a11 a12 a13 a14 a15 : Option SV} : ∃ b10 b11 b13,
    evSs g_law ((bodyL.drop 12).take 5) [a0, a1, a2, some (.sh (.lst (L1.map lst40))), some (.sh (.lst (L2.map lst40))), some (.sh (rul (few [] L1))), some (.sh (rul (few [] L2))), a7, a8, a9, a10, a11, a12, a13, a14, a15] m = .nx [a0, a1, a2, some (.sh (.lst (L1.map lst40))), some (.sh (.lst (L2.map lst40))), some (.sh (rul (few [] L1))), some (.sh (rul (few [] L2))), a7, a8, a9, b10, b11, a12, b13, a14, a15] m := by
  have n1 := o1.len
  have n2 := o2.len
  have ll : ∀ m, binD g_law .add (.lst (L1.map lst40)) (.lst (L2.map lst40)) m = .ok (.lst ((L1 ++ L2).map lst40)) m := fun m => by
    rw [bin_ll (by rw [List.length_map, List.length_map]; unfold maxLen; omega), List.map_append]
  have hl : ((L1 ++ L2).map lst40).length ≤ 100000 := by rw [List.length_map, List.length_append]; omega
  have rng : ∀ p ∈ L1 ++ L2, 0 ≤ p.1 ∧ p.1 ≤ 40 := fun p hp => (List.mem_append.mp hp).elim (o1.rng p) (o2.rng p)
  have r1 : ∀ j, 0 ≤ j ∧ j ≤ 40 → ∀ m, m__law_rate [.lst (L1.map lst40), prq (uq j)] m = .ok (prq (rq L1 j)) m := fun j hj m => law_rate_ok o1 hj (o1.ro.has j hj.1).1
  have r2 : ∀ j, 0 ≤ j ∧ j ≤ 40 → ∀ m, m__law_rate [.lst (L2.map lst40), prq (uq j)] m = .ok (prq (rq L2 j)) m := fun j hj m => law_rate_ok o2 hj (o2.ro.has j hj.1).1
  have ls : ∀ j, 0 ≤ j → ∀ m, m__law_less [prq (rq L2 j), prq (rq L1 j)] m = .ok (.bl (ltAt L2 L1 j)) m := fun j hj m => by
    have x1 := (o1.ro.has j hj).2
    have x2 := (o2.ro.has j hj).2
    exact less_ok (x2.b1.sm (by decide)) (x2.b2.sm (by decide)) (x1.b1.sm (by decide)) (x1.b2.sm (by decide))
  let qs : List Q := ((L1 ++ L2).filter fun p => ltAt L2 L1 p.1).map fun p => uq p.1
  have hc : ∀ (a10 a11 a13 : Option SV) m, compX (compF g_law (.tup [.var 13, .var 15]) [.call 10 [.call 11 [.var 4, .var 13] [], .call 11 [.var 3, .var 13] []] []] (.var 13) [a0, a1, a2, some (.sh (.lst (L1.map lst40))), some (.sh (.lst (L2.map lst40))), some (.sh (rul (few [] L1))), some (.sh (rul (few [] L2))), a7, a8, a9, a10, a11, a12, a13, a14, a15]) ((L1 ++ L2).map lst40) m = .ok (qs.map prq) m := fun a10 a11 a13 m => by
    rw [comp_enc (fun p => ltAt L2 L1 p.1) (fun p => prq (uq p.1)) (fun p hp => by
      have hr := rng p hp
      rw [show lst40 p = .tup [prq (uq p.1), prq p.2] from rfl]
      cases z : ltAt L2 L1 p.1 <;>
      simp only [DI.Ev.ss_nil, DI.Ev.ss_cons, DI.Ev.st_try, DI.Ev.ee_0, DI.Ev.ee_1, DI.Ev.ee_2, DI.Ev.ee_3, DI.Ev.ee_4, DI.Ev.ee_5, DI.Ev.ee_6, DI.Ev.ee_7, DI.Ev.ee_8, DI.Ev.ee_9, DI.Ev.ee_10, DI.Ev.ee_11, DI.Ev.ee_12, DI.Ev.ee_13, DI.Ev.ee_14, DI.Ev.ee_15, DI.Ev.ee_16, DI.Ev.ee_17, DI.Ev.ee_18, DI.Ev.ee_19, DI.Ev.ee_20, DI.Ev.ee_21, DI.Ev.ee_22, DI.Ev.ee_23, DI.Ev.ee_24, DI.Ev.ee_25, DI.Ev.ee_26, DI.Ev.ee_27, DI.Ev.ee_28, DI.Ev.ee_29, DI.Ev.ee_30, DI.Ev.es_0, DI.Ev.es_1, DI.Ev.eo_0, DI.Ev.eo_1, DI.Ev.ec_0, DI.Ev.ec_1, DI.Ev.ei_0, DI.Ev.ei_1, DI.Ev.ei_2, DI.Ev.ei_3, DI.Ev.ei_4, DI.Ev.ei_5, DI.Ev.ei_6, DI.Ev.st_0, DI.Ev.st_1, DI.Ev.st_2, DI.Ev.st_3, DI.Ev.st_4, DI.Ev.st_5, DI.Ev.st_6, DI.Ev.st_7, DI.Ev.st_8, DI.Ev.st_9, DI.Ev.st_10, DI.Ev.st_11, DI.Ev.st_12, DI.Ev.st_13, DI.Ev.st_14, DI.Ev.st_17, DI.Ev.st_18, DI.Ev.st_19, DI.Ev.st_20, evH, DI.Ev.compX_nil, DI.Ev.compX_cons, DI.Ev.noX_ok, ↓reduceIte, DI.T.slots, DI.T.slotss, DI.wipeS, DI.Ev.bind_ok, DI.Ev.bind_exc, DI.Ev.out_ok, DI.Ev.out_exc, DI.Ev.seq_nx, DI.Ev.seq_ret, DI.Ev.seq_exc, DI.Ev.seq_brk, DI.Ev.seq_ct, DI.Ev.rnd_nx, DI.Ev.rnd_ct, DI.Ev.rnd_brk, DI.Ev.rnd_ret, DI.Ev.rnd_exc, DI.Ev.tr_nx, DI.Ev.tr_ret, DI.Ev.tr_exc, DI.Ev.fin_ret, DI.Ev.fin_nx, DI.Ev.fin_exc, DI.Ev.st_for, DI.Ev.forF_eq, DI.Ev.e_lcomp, DI.Ev.e_dcomp, DI.Ev.compF_eq, DI.Ev.compG_eq, DI.Ev.forX_cons, DI.Ev.forX_nil, DI.Ev.evF_eq, DI.Ev.nxO_some, DI.Ev.asg_var, DI.Ev.asg_tup, DI.Ev.asg_lst, DI.Ev.asgs_nil, DI.Ev.asgs_cons, DI.Ev.obind, DI.Ev.lift_some, DI.Ev.call_some, DI.Ev.bin_add, DI.Ev.bin_sub, DI.Ev.negD_int, DI.Ev.cmp_lt, DI.Ev.cmp_le, DI.Ev.cmp_gt, DI.Ev.cmp_ge, DI.Ev.cmp_eqI, DI.Ev.cmp_neI, DI.Ev.cmp_eqB, DI.Ev.cmp_neB, DI.Ev.cmp_eqT, splD, List.length_cons, List.length_nil, Nat.reduceAdd, Nat.reduceSub, Nat.reduceLeDiff, Nat.reduceLT, Nat.le_refl, List.cons_append, List.nil_append, List.append_nil, List.map_cons, List.map_nil, List.replicate, List.getElem?_cons_zero, List.getElem?_cons_succ, List.getElem?_nil, List.set_cons_zero, List.set_cons_succ, if_true, if_false, ite_true, ite_false, and_self, and_true, true_and, reduceCtorEq, Bool.not_true, Bool.not_false, decide_true, decide_false, maxLen, fnL, r1 p.1 hr, r2 p.1 hr, ls p.1 hr.1, z, Bool.false_eq_true])]
    show _ = Res.ok ((((L1 ++ L2).filter fun p => ltAt L2 L1 p.1).map fun p => uq p.1).map prq) m
    rw [List.map_map]
    rfl
  have iff := lt_few o2 o1
  rcases never_ok o1.rof o2.rof m with ⟨p, hp, h1, h2, h3⟩ | ⟨h1, h2, h3⟩
  · have he : qs.isEmpty = false := by
      obtain ⟨r, hr, hz⟩ := iff.mpr ⟨p, hp, h1⟩
      have : uq r.1 ∈ qs := List.mem_map.mpr ⟨r, List.mem_filter.mpr ⟨hr, hz⟩, rfl⟩
      cases hq : qs with
      | nil => rw [hq] at this; cases this
      | cons _ _ => rfl
    have en : ∀ m, cmpD g_law .eq (.lst (qs.map prq)) (.lst []) m = .ok (.bl false) m := fun m => by rw [eq_nil, he]
    have hpr : 0 ≤ p.1 ∧ p.1 ≤ 40 := (List.mem_append.mp hp).elim (fun z => (o2.rof.p p z).r) (fun z => (o1.rof.p p z).r)
    have hz : ltAt L2 L1 p.1 = true := by
      have := h1
      unfold ltAt at this ⊢
      rw [rq_few o1, rq_few o2] at this
      exact this
    have ls' : ∀ m, m__law_less [prq (rq L2 p.1), prq (rq L1 p.1)] m = .ok (.bl true) m := fun m => by rw [ls p.1 hpr.1, hz]
    have lo : ∀ m, m__law_less [.tup [.int 1, .int 1], prq (uq p.1)] m = .ok (.bl false) m := fun m => by rw [less_one (by omega), decide_eq_false (by omega)]
    have ix : ∀ m, idxD (prq (uq p.1)) (.int 0) m = some (.int (uq p.1).1) := fun m => atI_0 _ _
    have nn : ¬ (uq p.1).1 < 0 := by have := uq_nn hpr.1; omega
    refine ⟨some (.sh (.lst (qs.map prq))), some (.sh (.lst [raq (uq p.1)])), some (.sh (prq (uq p.1))), ?_⟩
    unfold bodyL ir_law
    simp only [List.drop_succ_cons, List.drop_zero, List.take_succ_cons, List.take_zero]
    simp only [DI.Ev.ss_nil, DI.Ev.ss_cons, DI.Ev.st_try, DI.Ev.ee_0, DI.Ev.ee_1, DI.Ev.ee_2, DI.Ev.ee_3, DI.Ev.ee_4, DI.Ev.ee_5, DI.Ev.ee_6, DI.Ev.ee_7, DI.Ev.ee_8, DI.Ev.ee_9, DI.Ev.ee_10, DI.Ev.ee_11, DI.Ev.ee_12, DI.Ev.ee_13, DI.Ev.ee_14, DI.Ev.ee_15, DI.Ev.ee_16, DI.Ev.ee_17, DI.Ev.ee_18, DI.Ev.ee_19, DI.Ev.ee_20, DI.Ev.ee_21, DI.Ev.ee_22, DI.Ev.ee_23, DI.Ev.ee_24, DI.Ev.ee_25, DI.Ev.ee_26, DI.Ev.ee_27, DI.Ev.ee_28, DI.Ev.ee_29, DI.Ev.ee_30, DI.Ev.es_0, DI.Ev.es_1, DI.Ev.eo_0, DI.Ev.eo_1, DI.Ev.ec_0, DI.Ev.ec_1, DI.Ev.ei_0, DI.Ev.ei_1, DI.Ev.ei_2, DI.Ev.ei_3, DI.Ev.ei_4, DI.Ev.ei_5, DI.Ev.ei_6, DI.Ev.st_0, DI.Ev.st_1, DI.Ev.st_2, DI.Ev.st_3, DI.Ev.st_4, DI.Ev.st_5, DI.Ev.st_6, DI.Ev.st_7, DI.Ev.st_8, DI.Ev.st_9, DI.Ev.st_10, DI.Ev.st_11, DI.Ev.st_12, DI.Ev.st_13, DI.Ev.st_14, DI.Ev.st_17, DI.Ev.st_18, DI.Ev.st_19, DI.Ev.st_20, evH, DI.Ev.compX_nil, DI.Ev.compX_cons, DI.Ev.noX_ok, ↓reduceIte, DI.T.slots, DI.T.slotss, DI.wipeS, DI.Ev.bind_ok, DI.Ev.bind_exc, DI.Ev.out_ok, DI.Ev.out_exc, DI.Ev.seq_nx, DI.Ev.seq_ret, DI.Ev.seq_exc, DI.Ev.seq_brk, DI.Ev.seq_ct, DI.Ev.rnd_nx, DI.Ev.rnd_ct, DI.Ev.rnd_brk, DI.Ev.rnd_ret, DI.Ev.rnd_exc, DI.Ev.tr_nx, DI.Ev.tr_ret, DI.Ev.tr_exc, DI.Ev.fin_ret, DI.Ev.fin_nx, DI.Ev.fin_exc, DI.Ev.st_for, DI.Ev.forF_eq, DI.Ev.e_lcomp, DI.Ev.e_dcomp, DI.Ev.compF_eq, DI.Ev.compG_eq, DI.Ev.forX_cons, DI.Ev.forX_nil, DI.Ev.evF_eq, DI.Ev.nxO_some, DI.Ev.asg_var, DI.Ev.asg_tup, DI.Ev.asg_lst, DI.Ev.asgs_nil, DI.Ev.asgs_cons, DI.Ev.obind, DI.Ev.lift_some, DI.Ev.call_some, DI.Ev.bin_add, DI.Ev.bin_sub, DI.Ev.negD_int, DI.Ev.cmp_lt, DI.Ev.cmp_le, DI.Ev.cmp_gt, DI.Ev.cmp_ge, DI.Ev.cmp_eqI, DI.Ev.cmp_neI, DI.Ev.cmp_eqB, DI.Ev.cmp_neB, DI.Ev.cmp_eqT, splD, List.length_cons, List.length_nil, Nat.reduceAdd, Nat.reduceSub, Nat.reduceLeDiff, Nat.reduceLT, Nat.le_refl, List.cons_append, List.nil_append, List.append_nil, List.map_cons, List.map_nil, List.replicate, List.getElem?_cons_zero, List.getElem?_cons_succ, List.getElem?_nil, List.set_cons_zero, List.set_cons_succ, if_true, if_false, ite_true, ite_false, and_self, and_true, true_and, reduceCtorEq, Bool.not_true, Bool.not_false, decide_true, decide_false, maxLen, ll, it_lst, hl]
    rw [hc]
    simp only [DI.Ev.ss_nil, DI.Ev.ss_cons, DI.Ev.st_try, DI.Ev.ee_0, DI.Ev.ee_1, DI.Ev.ee_2, DI.Ev.ee_3, DI.Ev.ee_4, DI.Ev.ee_5, DI.Ev.ee_6, DI.Ev.ee_7, DI.Ev.ee_8, DI.Ev.ee_9, DI.Ev.ee_10, DI.Ev.ee_11, DI.Ev.ee_12, DI.Ev.ee_13, DI.Ev.ee_14, DI.Ev.ee_15, DI.Ev.ee_16, DI.Ev.ee_17, DI.Ev.ee_18, DI.Ev.ee_19, DI.Ev.ee_20, DI.Ev.ee_21, DI.Ev.ee_22, DI.Ev.ee_23, DI.Ev.ee_24, DI.Ev.ee_25, DI.Ev.ee_26, DI.Ev.ee_27, DI.Ev.ee_28, DI.Ev.ee_29, DI.Ev.ee_30, DI.Ev.es_0, DI.Ev.es_1, DI.Ev.eo_0, DI.Ev.eo_1, DI.Ev.ec_0, DI.Ev.ec_1, DI.Ev.ei_0, DI.Ev.ei_1, DI.Ev.ei_2, DI.Ev.ei_3, DI.Ev.ei_4, DI.Ev.ei_5, DI.Ev.ei_6, DI.Ev.st_0, DI.Ev.st_1, DI.Ev.st_2, DI.Ev.st_3, DI.Ev.st_4, DI.Ev.st_5, DI.Ev.st_6, DI.Ev.st_7, DI.Ev.st_8, DI.Ev.st_9, DI.Ev.st_10, DI.Ev.st_11, DI.Ev.st_12, DI.Ev.st_13, DI.Ev.st_14, DI.Ev.st_17, DI.Ev.st_18, DI.Ev.st_19, DI.Ev.st_20, evH, DI.Ev.compX_nil, DI.Ev.compX_cons, DI.Ev.noX_ok, ↓reduceIte, DI.T.slots, DI.T.slotss, DI.wipeS, DI.Ev.bind_ok, DI.Ev.bind_exc, DI.Ev.out_ok, DI.Ev.out_exc, DI.Ev.seq_nx, DI.Ev.seq_ret, DI.Ev.seq_exc, DI.Ev.seq_brk, DI.Ev.seq_ct, DI.Ev.rnd_nx, DI.Ev.rnd_ct, DI.Ev.rnd_brk, DI.Ev.rnd_ret, DI.Ev.rnd_exc, DI.Ev.tr_nx, DI.Ev.tr_ret, DI.Ev.tr_exc, DI.Ev.fin_ret, DI.Ev.fin_nx, DI.Ev.fin_exc, DI.Ev.st_for, DI.Ev.forF_eq, DI.Ev.e_lcomp, DI.Ev.e_dcomp, DI.Ev.compF_eq, DI.Ev.compG_eq, DI.Ev.forX_cons, DI.Ev.forX_nil, DI.Ev.evF_eq, DI.Ev.nxO_some, DI.Ev.asg_var, DI.Ev.asg_tup, DI.Ev.asg_lst, DI.Ev.asgs_nil, DI.Ev.asgs_cons, DI.Ev.obind, DI.Ev.lift_some, DI.Ev.call_some, DI.Ev.bin_add, DI.Ev.bin_sub, DI.Ev.negD_int, DI.Ev.cmp_lt, DI.Ev.cmp_le, DI.Ev.cmp_gt, DI.Ev.cmp_ge, DI.Ev.cmp_eqI, DI.Ev.cmp_neI, DI.Ev.cmp_eqB, DI.Ev.cmp_neB, DI.Ev.cmp_eqT, splD, List.length_cons, List.length_nil, Nat.reduceAdd, Nat.reduceSub, Nat.reduceLeDiff, Nat.reduceLT, Nat.le_refl, List.cons_append, List.nil_append, List.append_nil, List.map_cons, List.map_nil, List.replicate, List.getElem?_cons_zero, List.getElem?_cons_succ, List.getElem?_nil, List.set_cons_zero, List.set_cons_succ, if_true, if_false, ite_true, ite_false, and_self, and_true, true_and, reduceCtorEq, Bool.not_true, Bool.not_false, decide_true, decide_false, maxLen, fnL, h2, h3, en, never_self o1.rof, idx_lst, atI_0, told_ok, bi_len, ix, nn, lo, r1 p.1 hpr, r2 p.1 hpr, ls', beq_self_eq_true, Int.ofNat_eq_natCast, Int.natCast_one]
  · have he : qs.isEmpty = true := by
      cases hq : qs with
      | nil => rfl
      | cons a T =>
        have : a ∈ qs := by rw [hq]; exact List.mem_cons_self ..
        obtain ⟨r, hr, rfl⟩ := List.mem_map.mp this
        obtain ⟨hr1, hr2⟩ := List.mem_filter.mp hr
        obtain ⟨s, hs, hz⟩ := iff.mp ⟨r, hr1, hr2⟩
        rw [h1 s hs] at hz
        cases hz
    have en : ∀ m, cmpD g_law .eq (.lst (qs.map prq)) (.lst []) m = .ok (.bl true) m := fun m => by rw [eq_nil, he]
    refine ⟨some (.sh (.lst (qs.map prq))), some (.sh .non), a13, ?_⟩
    unfold bodyL ir_law
    simp only [List.drop_succ_cons, List.drop_zero, List.take_succ_cons, List.take_zero]
    simp only [DI.Ev.ss_nil, DI.Ev.ss_cons, DI.Ev.st_try, DI.Ev.ee_0, DI.Ev.ee_1, DI.Ev.ee_2, DI.Ev.ee_3, DI.Ev.ee_4, DI.Ev.ee_5, DI.Ev.ee_6, DI.Ev.ee_7, DI.Ev.ee_8, DI.Ev.ee_9, DI.Ev.ee_10, DI.Ev.ee_11, DI.Ev.ee_12, DI.Ev.ee_13, DI.Ev.ee_14, DI.Ev.ee_15, DI.Ev.ee_16, DI.Ev.ee_17, DI.Ev.ee_18, DI.Ev.ee_19, DI.Ev.ee_20, DI.Ev.ee_21, DI.Ev.ee_22, DI.Ev.ee_23, DI.Ev.ee_24, DI.Ev.ee_25, DI.Ev.ee_26, DI.Ev.ee_27, DI.Ev.ee_28, DI.Ev.ee_29, DI.Ev.ee_30, DI.Ev.es_0, DI.Ev.es_1, DI.Ev.eo_0, DI.Ev.eo_1, DI.Ev.ec_0, DI.Ev.ec_1, DI.Ev.ei_0, DI.Ev.ei_1, DI.Ev.ei_2, DI.Ev.ei_3, DI.Ev.ei_4, DI.Ev.ei_5, DI.Ev.ei_6, DI.Ev.st_0, DI.Ev.st_1, DI.Ev.st_2, DI.Ev.st_3, DI.Ev.st_4, DI.Ev.st_5, DI.Ev.st_6, DI.Ev.st_7, DI.Ev.st_8, DI.Ev.st_9, DI.Ev.st_10, DI.Ev.st_11, DI.Ev.st_12, DI.Ev.st_13, DI.Ev.st_14, DI.Ev.st_17, DI.Ev.st_18, DI.Ev.st_19, DI.Ev.st_20, evH, DI.Ev.compX_nil, DI.Ev.compX_cons, DI.Ev.noX_ok, ↓reduceIte, DI.T.slots, DI.T.slotss, DI.wipeS, DI.Ev.bind_ok, DI.Ev.bind_exc, DI.Ev.out_ok, DI.Ev.out_exc, DI.Ev.seq_nx, DI.Ev.seq_ret, DI.Ev.seq_exc, DI.Ev.seq_brk, DI.Ev.seq_ct, DI.Ev.rnd_nx, DI.Ev.rnd_ct, DI.Ev.rnd_brk, DI.Ev.rnd_ret, DI.Ev.rnd_exc, DI.Ev.tr_nx, DI.Ev.tr_ret, DI.Ev.tr_exc, DI.Ev.fin_ret, DI.Ev.fin_nx, DI.Ev.fin_exc, DI.Ev.st_for, DI.Ev.forF_eq, DI.Ev.e_lcomp, DI.Ev.e_dcomp, DI.Ev.compF_eq, DI.Ev.compG_eq, DI.Ev.forX_cons, DI.Ev.forX_nil, DI.Ev.evF_eq, DI.Ev.nxO_some, DI.Ev.asg_var, DI.Ev.asg_tup, DI.Ev.asg_lst, DI.Ev.asgs_nil, DI.Ev.asgs_cons, DI.Ev.obind, DI.Ev.lift_some, DI.Ev.call_some, DI.Ev.bin_add, DI.Ev.bin_sub, DI.Ev.negD_int, DI.Ev.cmp_lt, DI.Ev.cmp_le, DI.Ev.cmp_gt, DI.Ev.cmp_ge, DI.Ev.cmp_eqI, DI.Ev.cmp_neI, DI.Ev.cmp_eqB, DI.Ev.cmp_neB, DI.Ev.cmp_eqT, splD, List.length_cons, List.length_nil, Nat.reduceAdd, Nat.reduceSub, Nat.reduceLeDiff, Nat.reduceLT, Nat.le_refl, List.cons_append, List.nil_append, List.append_nil, List.map_cons, List.map_nil, List.replicate, List.getElem?_cons_zero, List.getElem?_cons_succ, List.getElem?_nil, List.set_cons_zero, List.set_cons_succ, if_true, if_false, ite_true, ite_false, and_self, and_true, true_and, reduceCtorEq, Bool.not_true, Bool.not_false, decide_true, decide_false, maxLen, ll, it_lst, hl]
    rw [hc]
    simp only [DI.Ev.ss_nil, DI.Ev.ss_cons, DI.Ev.st_try, DI.Ev.ee_0, DI.Ev.ee_1, DI.Ev.ee_2, DI.Ev.ee_3, DI.Ev.ee_4, DI.Ev.ee_5, DI.Ev.ee_6, DI.Ev.ee_7, DI.Ev.ee_8, DI.Ev.ee_9, DI.Ev.ee_10, DI.Ev.ee_11, DI.Ev.ee_12, DI.Ev.ee_13, DI.Ev.ee_14, DI.Ev.ee_15, DI.Ev.ee_16, DI.Ev.ee_17, DI.Ev.ee_18, DI.Ev.ee_19, DI.Ev.ee_20, DI.Ev.ee_21, DI.Ev.ee_22, DI.Ev.ee_23, DI.Ev.ee_24, DI.Ev.ee_25, DI.Ev.ee_26, DI.Ev.ee_27, DI.Ev.ee_28, DI.Ev.ee_29, DI.Ev.ee_30, DI.Ev.es_0, DI.Ev.es_1, DI.Ev.eo_0, DI.Ev.eo_1, DI.Ev.ec_0, DI.Ev.ec_1, DI.Ev.ei_0, DI.Ev.ei_1, DI.Ev.ei_2, DI.Ev.ei_3, DI.Ev.ei_4, DI.Ev.ei_5, DI.Ev.ei_6, DI.Ev.st_0, DI.Ev.st_1, DI.Ev.st_2, DI.Ev.st_3, DI.Ev.st_4, DI.Ev.st_5, DI.Ev.st_6, DI.Ev.st_7, DI.Ev.st_8, DI.Ev.st_9, DI.Ev.st_10, DI.Ev.st_11, DI.Ev.st_12, DI.Ev.st_13, DI.Ev.st_14, DI.Ev.st_17, DI.Ev.st_18, DI.Ev.st_19, DI.Ev.st_20, evH, DI.Ev.compX_nil, DI.Ev.compX_cons, DI.Ev.noX_ok, ↓reduceIte, DI.T.slots, DI.T.slotss, DI.wipeS, DI.Ev.bind_ok, DI.Ev.bind_exc, DI.Ev.out_ok, DI.Ev.out_exc, DI.Ev.seq_nx, DI.Ev.seq_ret, DI.Ev.seq_exc, DI.Ev.seq_brk, DI.Ev.seq_ct, DI.Ev.rnd_nx, DI.Ev.rnd_ct, DI.Ev.rnd_brk, DI.Ev.rnd_ret, DI.Ev.rnd_exc, DI.Ev.tr_nx, DI.Ev.tr_ret, DI.Ev.tr_exc, DI.Ev.fin_ret, DI.Ev.fin_nx, DI.Ev.fin_exc, DI.Ev.st_for, DI.Ev.forF_eq, DI.Ev.e_lcomp, DI.Ev.e_dcomp, DI.Ev.compF_eq, DI.Ev.compG_eq, DI.Ev.forX_cons, DI.Ev.forX_nil, DI.Ev.evF_eq, DI.Ev.nxO_some, DI.Ev.asg_var, DI.Ev.asg_tup, DI.Ev.asg_lst, DI.Ev.asgs_nil, DI.Ev.asgs_cons, DI.Ev.obind, DI.Ev.lift_some, DI.Ev.call_some, DI.Ev.bin_add, DI.Ev.bin_sub, DI.Ev.negD_int, DI.Ev.cmp_lt, DI.Ev.cmp_le, DI.Ev.cmp_gt, DI.Ev.cmp_ge, DI.Ev.cmp_eqI, DI.Ev.cmp_neI, DI.Ev.cmp_eqB, DI.Ev.cmp_neB, DI.Ev.cmp_eqT, splD, List.length_cons, List.length_nil, Nat.reduceAdd, Nat.reduceSub, Nat.reduceLeDiff, Nat.reduceLT, Nat.le_refl, List.cons_append, List.nil_append, List.append_nil, List.map_cons, List.map_nil, List.replicate, List.getElem?_cons_zero, List.getElem?_cons_succ, List.getElem?_nil, List.set_cons_zero, List.set_cons_succ, if_true, if_false, ite_true, ite_false, and_self, and_true, true_and, reduceCtorEq, Bool.not_true, Bool.not_false, decide_true, decide_false, maxLen, fnL, h2, h3, en, never_self o1.rof, beq_self_eq_true]
/-- what is no use is refused -/
theorem stE {L1 L2 : List Step} {js : List Int} (hj : ∀ j ∈ js, 0 ≤ j ∧ j ≤ 40) (hl : js.length ≤ 20) {a0 a1 a3 a4 a7 a9 a10 a11 a12 a13 a14 a15 : Option SV} {i : Nat} {w c q : Int} (b : Bx m i w c q) (hc : c ≤ 250) : ∃ b12 m',
    evSs g_law (bodyL.drop 17) [a0, a1, some (.sh (.ref i)), a3, a4, some (.sh (rul (few [] L1))), some (.sh (rul (few [] L2))), a7, some (.sh (.lst (js.map hD))), a9, a10, a11, a12, a13, a14, a15] m = .nx [a0, a1, some (.sh (.ref i)), a3, a4, some (.sh (rul (few [] L1))), some (.sh (rul (few [] L2))), a7, some (.sh (.lst (js.map hD))), a9, a10, a11, b12, a13, a14, a15] m' := by
  obtain ⟨d, m1, w1, c1, t1, p1, p1', b1, k1⟩ := take_ok b (by omega) (k := 5) (by decide) (sm_of (by decide))
  obtain ⟨o, eo, ho, hne⟩ := odd_ok p1 p1'
  have ll : ∀ m, binD g_law .add (.lst (js.map hD)) (.lst [o, .non]) m = .ok (.lst (js.map hD ++ [o, .non])) m := fun m => bin_ll (by rw [List.length_map]; unfold maxLen; simp; omega)
  refine ⟨some (.sh o), m1, ?_⟩
  unfold bodyL ir_law
  simp only [List.drop_succ_cons, List.drop_zero]
  simp only [DI.Ev.ss_nil, DI.Ev.ss_cons, DI.Ev.st_try, DI.Ev.ee_0, DI.Ev.ee_1, DI.Ev.ee_2, DI.Ev.ee_3, DI.Ev.ee_4, DI.Ev.ee_5, DI.Ev.ee_6, DI.Ev.ee_7, DI.Ev.ee_8, DI.Ev.ee_9, DI.Ev.ee_10, DI.Ev.ee_11, DI.Ev.ee_12, DI.Ev.ee_13, DI.Ev.ee_14, DI.Ev.ee_15, DI.Ev.ee_16, DI.Ev.ee_17, DI.Ev.ee_18, DI.Ev.ee_19, DI.Ev.ee_20, DI.Ev.ee_21, DI.Ev.ee_22, DI.Ev.ee_23, DI.Ev.ee_24, DI.Ev.ee_25, DI.Ev.ee_26, DI.Ev.ee_27, DI.Ev.ee_28, DI.Ev.ee_29, DI.Ev.ee_30, DI.Ev.es_0, DI.Ev.es_1, DI.Ev.eo_0, DI.Ev.eo_1, DI.Ev.ec_0, DI.Ev.ec_1, DI.Ev.ei_0, DI.Ev.ei_1, DI.Ev.ei_2, DI.Ev.ei_3, DI.Ev.ei_4, DI.Ev.ei_5, DI.Ev.ei_6, DI.Ev.st_0, DI.Ev.st_1, DI.Ev.st_2, DI.Ev.st_3, DI.Ev.st_4, DI.Ev.st_5, DI.Ev.st_6, DI.Ev.st_7, DI.Ev.st_8, DI.Ev.st_9, DI.Ev.st_10, DI.Ev.st_11, DI.Ev.st_12, DI.Ev.st_13, DI.Ev.st_14, DI.Ev.st_17, DI.Ev.st_18, DI.Ev.st_19, DI.Ev.st_20, evH, DI.Ev.compX_nil, DI.Ev.compX_cons, DI.Ev.noX_ok, ↓reduceIte, DI.T.slots, DI.T.slotss, DI.wipeS, DI.Ev.bind_ok, DI.Ev.bind_exc, DI.Ev.out_ok, DI.Ev.out_exc, DI.Ev.seq_nx, DI.Ev.seq_ret, DI.Ev.seq_exc, DI.Ev.seq_brk, DI.Ev.seq_ct, DI.Ev.rnd_nx, DI.Ev.rnd_ct, DI.Ev.rnd_brk, DI.Ev.rnd_ret, DI.Ev.rnd_exc, DI.Ev.tr_nx, DI.Ev.tr_ret, DI.Ev.tr_exc, DI.Ev.fin_ret, DI.Ev.fin_nx, DI.Ev.fin_exc, DI.Ev.st_for, DI.Ev.forF_eq, DI.Ev.e_lcomp, DI.Ev.e_dcomp, DI.Ev.compF_eq, DI.Ev.compG_eq, DI.Ev.forX_cons, DI.Ev.forX_nil, DI.Ev.evF_eq, DI.Ev.nxO_some, DI.Ev.asg_var, DI.Ev.asg_tup, DI.Ev.asg_lst, DI.Ev.asgs_nil, DI.Ev.asgs_cons, DI.Ev.obind, DI.Ev.lift_some, DI.Ev.call_some, DI.Ev.bin_add, DI.Ev.bin_sub, DI.Ev.negD_int, DI.Ev.cmp_lt, DI.Ev.cmp_le, DI.Ev.cmp_gt, DI.Ev.cmp_ge, DI.Ev.cmp_eqI, DI.Ev.cmp_neI, DI.Ev.cmp_eqB, DI.Ev.cmp_neB, DI.Ev.cmp_eqT, splD, List.length_cons, List.length_nil, Nat.reduceAdd, Nat.reduceSub, Nat.reduceLeDiff, Nat.reduceLT, Nat.le_refl, List.cons_append, List.nil_append, List.append_nil, List.map_cons, List.map_nil, List.replicate, List.getElem?_cons_zero, List.getElem?_cons_succ, List.getElem?_nil, List.set_cons_zero, List.set_cons_succ, if_true, if_false, ite_true, ite_false, and_self, and_true, true_and, reduceCtorEq, Bool.not_true, Bool.not_false, decide_true, decide_false, maxLen, fnL, t1, eo, ll, fun m => refused_ok (m := m) (R1 := few [] L1) (R2 := few [] L2) hj ho, hne]
theorem sss_append (g : G) (a b : List S) (σ : Sl) (m : MS) : evSs g (a ++ b) σ m = (evSs g a σ m).seq (fun σ m => evSs g b σ m) := by
  induction a generalizing σ m with
  | nil => simp only [List.nil_append, ss_nil, seq_nx]
  | cons s a ih =>
    rw [List.cons_append, ss_cons, ss_cons]
    cases evS g s σ m with
    | nx σ m => simp only [seq_nx, ih]
    | _ => rfl
theorem body_eq : bodyL = bodyL.take 4 ++ ((bodyL.drop 4).take 4 ++ ((bodyL.drop 8).take 4 ++ ((bodyL.drop 12).take 5 ++ bodyL.drop 17))) := rfl
theorem round_ok (ns : List Int) {k : Int} (hk : k = 0 ∨ k = 1) (a2 a3 a4 a5 a6 a7 a8 a9 a10 a11 a12 a13 a14 a15 : Option SV) : ∃ b2 b3 b4 b5 b6 b7 b8 b9 b10 b11 b12 b13 m',
    evSs g_law bodyL [some (.sh (.lst (ns.map .int))), some (.sh (.int k)), a2, a3, a4, a5, a6, a7, a8, a9, a10, a11, a12, a13, a14, a15] m = .nx [some (.sh (.lst (ns.map .int))), some (.sh (.int k)), b2, b3, b4, b5, b6, b7, b8, b9, b10, b11, b12, b13, a14, a15] m' := by
  obtain ⟨L1, L2, i, m1, w1, c1, q, e1, o1, o2, b1, k1⟩ := stA (m := m) ns hk a2 a3 a4 a5 a6 a7 a8 a9 a10 a11 a12 a13 a14 a15
  obtain ⟨js, m2, w2, c2, e2, hj, hl, b2, k2⟩ := stB o1 o2 (a0 := some (.sh (.lst (ns.map .int)))) (a1 := some (.sh (.int k))) b1 k1 a5 a6 a7 a8 a9 a10 a11 a12 a13 a14 a15
  obtain ⟨b9, e3⟩ := stC (m := m2) o1 o2 hj hl (a0 := some (.sh (.lst (ns.map .int)))) (a1 := some (.sh (.int k))) (a2 := some (.sh (.ref i))) (a9 := a9) (a10 := a10) (a11 := a11) (a12 := a12) (a13 := a13) (a14 := a14) (a15 := a15)
  obtain ⟨b10, b11, b13, e4⟩ := stD (m := m2) o1 o2 (a0 := some (.sh (.lst (ns.map .int)))) (a1 := some (.sh (.int k))) (a2 := some (.sh (.ref i))) (a7 := some (.sh (.lst (js.map fun j => prq (uq j))))) (a8 := some (.sh (.lst (js.map hD)))) (a9 := b9) (a10 := a10) (a11 := a11) (a12 := a12) (a13 := a13) (a14 := a14) (a15 := a15)
  obtain ⟨b12, m3, e5⟩ := stE (L1 := L1) (L2 := L2) hj hl (a0 := some (.sh (.lst (ns.map .int)))) (a1 := some (.sh (.int k))) (a3 := some (.sh (.lst (L1.map lst40)))) (a4 := some (.sh (.lst (L2.map lst40)))) (a7 := some (.sh (.lst (js.map fun j => prq (uq j))))) (a9 := b9) (a10 := b10) (a11 := b11) (a12 := a12) (a13 := b13) (a14 := a14) (a15 := a15) b2 k2
  refine ⟨some (.sh (.ref i)), some (.sh (.lst (L1.map lst40))), some (.sh (.lst (L2.map lst40))), some (.sh (rul (few [] L1))), some (.sh (rul (few [] L2))), some (.sh (.lst (js.map fun j => prq (uq j)))), some (.sh (.lst (js.map hD))), b9, b10, b11, b12, b13, m3, ?_⟩
  rw [body_eq, sss_append, e1, seq_nx, sss_append, e2, seq_nx, sss_append, e3, seq_nx, sss_append, e4, seq_nx, e5]
theorem law_eq : ir_law = [.for_ (.var 1) (.rng (.bi .max [(.con (.int 1)), (.bi .min [(.con (.int 2)), (.bi .len [(.var 0)])])])) bodyL, .ret (.con (.bl true))] := rfl
theorem law_ok (ns : List Int) : ∃ m, evSs g_law ir_law (some (.sh (.lst (ns.map .int))) :: List.replicate 15 none) [] = .ret (.bl true) m := by
  obtain ⟨b2, b3, b4, b5, b6, b7, b8, b9, b10, b11, b12, b13, m1, e1⟩ := round_ok (m := []) ns (k := 0) (.inl rfl) none none none none none none none none none none none none none none
  obtain ⟨d2, d3, d4, d5, d6, d7, d8, d9, d10, d11, d12, d13, m2, e2⟩ := round_ok (m := m1) ns (k := 1) (.inr rfl) b2 b3 b4 b5 b6 b7 b8 b9 b10 b11 b12 b13 none none
  have f : ∀ {d : D} {σ σ' : Sl} {m : MS}, asgT (.var 1) d σ = some σ' → forF g_law (.var 1) bodyL d σ m = evSs g_law bodyL σ' m := fun h => forF_ap _ _ _ h
  rw [law_eq]
  simp only [List.replicate]
  rw [ss_cons, st_for]
  by_cases h : (2 : Int) ≤ ns.length
  · refine ⟨m2, ?_⟩
    have h1 : (if (ns.length : Int) < 2 then (ns.length : Int) else 2) = 2 := if_neg (by omega)
    have hi : evIt g_law (.rng (.bi .max [(.con (.int 1)), (.bi .min [(.con (.int 2)), (.bi .len [(.var 0)])])])) [some (.sh (.lst (ns.map .int))), none, none, none, none, none, none, none, none, none, none, none, none, none, none, none] [] = .ok [.int 0, .int 1] [] := by
      simp only [DI.Ev.ss_nil, DI.Ev.ss_cons, DI.Ev.st_try, DI.Ev.ee_0, DI.Ev.ee_1, DI.Ev.ee_2, DI.Ev.ee_3, DI.Ev.ee_4, DI.Ev.ee_5, DI.Ev.ee_6, DI.Ev.ee_7, DI.Ev.ee_8, DI.Ev.ee_9, DI.Ev.ee_10, DI.Ev.ee_11, DI.Ev.ee_12, DI.Ev.ee_13, DI.Ev.ee_14, DI.Ev.ee_15, DI.Ev.ee_16, DI.Ev.ee_17, DI.Ev.ee_18, DI.Ev.ee_19, DI.Ev.ee_20, DI.Ev.ee_21, DI.Ev.ee_22, DI.Ev.ee_23, DI.Ev.ee_24, DI.Ev.ee_25, DI.Ev.ee_26, DI.Ev.ee_27, DI.Ev.ee_28, DI.Ev.ee_29, DI.Ev.ee_30, DI.Ev.es_0, DI.Ev.es_1, DI.Ev.eo_0, DI.Ev.eo_1, DI.Ev.ec_0, DI.Ev.ec_1, DI.Ev.ei_0, DI.Ev.ei_1, DI.Ev.ei_2, DI.Ev.ei_3, DI.Ev.ei_4, DI.Ev.ei_5, DI.Ev.ei_6, DI.Ev.st_0, DI.Ev.st_1, DI.Ev.st_2, DI.Ev.st_3, DI.Ev.st_4, DI.Ev.st_5, DI.Ev.st_6, DI.Ev.st_7, DI.Ev.st_8, DI.Ev.st_9, DI.Ev.st_10, DI.Ev.st_11, DI.Ev.st_12, DI.Ev.st_13, DI.Ev.st_14, DI.Ev.st_17, DI.Ev.st_18, DI.Ev.st_19, DI.Ev.st_20, evH, DI.Ev.compX_nil, DI.Ev.compX_cons, DI.Ev.noX_ok, ↓reduceIte, DI.T.slots, DI.T.slotss, DI.wipeS, DI.Ev.bind_ok, DI.Ev.bind_exc, DI.Ev.out_ok, DI.Ev.out_exc, DI.Ev.seq_nx, DI.Ev.seq_ret, DI.Ev.seq_exc, DI.Ev.seq_brk, DI.Ev.seq_ct, DI.Ev.rnd_nx, DI.Ev.rnd_ct, DI.Ev.rnd_brk, DI.Ev.rnd_ret, DI.Ev.rnd_exc, DI.Ev.tr_nx, DI.Ev.tr_ret, DI.Ev.tr_exc, DI.Ev.fin_ret, DI.Ev.fin_nx, DI.Ev.fin_exc, DI.Ev.st_for, DI.Ev.forF_eq, DI.Ev.e_lcomp, DI.Ev.e_dcomp, DI.Ev.compF_eq, DI.Ev.compG_eq, DI.Ev.forX_cons, DI.Ev.forX_nil, DI.Ev.evF_eq, DI.Ev.nxO_some, DI.Ev.asg_var, DI.Ev.asg_tup, DI.Ev.asg_lst, DI.Ev.asgs_nil, DI.Ev.asgs_cons, DI.Ev.obind, DI.Ev.lift_some, DI.Ev.call_some, DI.Ev.bin_add, DI.Ev.bin_sub, DI.Ev.negD_int, DI.Ev.cmp_lt, DI.Ev.cmp_le, DI.Ev.cmp_gt, DI.Ev.cmp_ge, DI.Ev.cmp_eqI, DI.Ev.cmp_neI, DI.Ev.cmp_eqB, DI.Ev.cmp_neB, DI.Ev.cmp_eqT, splD, List.length_cons, List.length_nil, Nat.reduceAdd, Nat.reduceSub, Nat.reduceLeDiff, Nat.reduceLT, Nat.le_refl, List.cons_append, List.nil_append, List.append_nil, List.map_cons, List.map_nil, List.replicate, List.getElem?_cons_zero, List.getElem?_cons_succ, List.getElem?_nil, List.set_cons_zero, List.set_cons_succ, if_true, if_false, ite_true, ite_false, and_self, and_true, true_and, reduceCtorEq, Bool.not_true, Bool.not_false, decide_true, decide_false, maxLen, bi_len, List.length_map, bi_min, bi_max, h1, GT.gt, Int.reduceLT, show rngD 0 2 = some [.int 0, .int 1] from rfl]
    rw [hi, out_ok, forX_cons, f (σ' := [some (.sh (.lst (ns.map .int))), some (.sh (.int 0)), none, none, none, none, none, none, none, none, none, none, none, none, none, none]) rfl, e1, rnd_nx, forX_cons, f (σ' := [some (.sh (.lst (ns.map .int))), some (.sh (.int 1)), b2, b3, b4, b5, b6, b7, b8, b9, b10, b11, b12, b13, none, none]) rfl, e2, rnd_nx]
    simp only [DI.Ev.ss_nil, DI.Ev.ss_cons, DI.Ev.st_try, DI.Ev.ee_0, DI.Ev.ee_1, DI.Ev.ee_2, DI.Ev.ee_3, DI.Ev.ee_4, DI.Ev.ee_5, DI.Ev.ee_6, DI.Ev.ee_7, DI.Ev.ee_8, DI.Ev.ee_9, DI.Ev.ee_10, DI.Ev.ee_11, DI.Ev.ee_12, DI.Ev.ee_13, DI.Ev.ee_14, DI.Ev.ee_15, DI.Ev.ee_16, DI.Ev.ee_17, DI.Ev.ee_18, DI.Ev.ee_19, DI.Ev.ee_20, DI.Ev.ee_21, DI.Ev.ee_22, DI.Ev.ee_23, DI.Ev.ee_24, DI.Ev.ee_25, DI.Ev.ee_26, DI.Ev.ee_27, DI.Ev.ee_28, DI.Ev.ee_29, DI.Ev.ee_30, DI.Ev.es_0, DI.Ev.es_1, DI.Ev.eo_0, DI.Ev.eo_1, DI.Ev.ec_0, DI.Ev.ec_1, DI.Ev.ei_0, DI.Ev.ei_1, DI.Ev.ei_2, DI.Ev.ei_3, DI.Ev.ei_4, DI.Ev.ei_5, DI.Ev.ei_6, DI.Ev.st_0, DI.Ev.st_1, DI.Ev.st_2, DI.Ev.st_3, DI.Ev.st_4, DI.Ev.st_5, DI.Ev.st_6, DI.Ev.st_7, DI.Ev.st_8, DI.Ev.st_9, DI.Ev.st_10, DI.Ev.st_11, DI.Ev.st_12, DI.Ev.st_13, DI.Ev.st_14, DI.Ev.st_17, DI.Ev.st_18, DI.Ev.st_19, DI.Ev.st_20, evH, DI.Ev.compX_nil, DI.Ev.compX_cons, DI.Ev.noX_ok, ↓reduceIte, DI.T.slots, DI.T.slotss, DI.wipeS, DI.Ev.bind_ok, DI.Ev.bind_exc, DI.Ev.out_ok, DI.Ev.out_exc, DI.Ev.seq_nx, DI.Ev.seq_ret, DI.Ev.seq_exc, DI.Ev.seq_brk, DI.Ev.seq_ct, DI.Ev.rnd_nx, DI.Ev.rnd_ct, DI.Ev.rnd_brk, DI.Ev.rnd_ret, DI.Ev.rnd_exc, DI.Ev.tr_nx, DI.Ev.tr_ret, DI.Ev.tr_exc, DI.Ev.fin_ret, DI.Ev.fin_nx, DI.Ev.fin_exc, DI.Ev.st_for, DI.Ev.forF_eq, DI.Ev.e_lcomp, DI.Ev.e_dcomp, DI.Ev.compF_eq, DI.Ev.compG_eq, DI.Ev.forX_cons, DI.Ev.forX_nil, DI.Ev.evF_eq, DI.Ev.nxO_some, DI.Ev.asg_var, DI.Ev.asg_tup, DI.Ev.asg_lst, DI.Ev.asgs_nil, DI.Ev.asgs_cons, DI.Ev.obind, DI.Ev.lift_some, DI.Ev.call_some, DI.Ev.bin_add, DI.Ev.bin_sub, DI.Ev.negD_int, DI.Ev.cmp_lt, DI.Ev.cmp_le, DI.Ev.cmp_gt, DI.Ev.cmp_ge, DI.Ev.cmp_eqI, DI.Ev.cmp_neI, DI.Ev.cmp_eqB, DI.Ev.cmp_neB, DI.Ev.cmp_eqT, splD, List.length_cons, List.length_nil, Nat.reduceAdd, Nat.reduceSub, Nat.reduceLeDiff, Nat.reduceLT, Nat.le_refl, List.cons_append, List.nil_append, List.append_nil, List.map_cons, List.map_nil, List.replicate, List.getElem?_cons_zero, List.getElem?_cons_succ, List.getElem?_nil, List.set_cons_zero, List.set_cons_succ, if_true, if_false, ite_true, ite_false, and_self, and_true, true_and, reduceCtorEq, Bool.not_true, Bool.not_false, decide_true, decide_false, maxLen]
  · refine ⟨m1, ?_⟩
    have h1 : (if (1 : Int) < (if (ns.length : Int) < 2 then (ns.length : Int) else 2) then (if (ns.length : Int) < 2 then (ns.length : Int) else 2) else 1) = 1 := if_neg (by split <;> omega)
    have hi : evIt g_law (.rng (.bi .max [(.con (.int 1)), (.bi .min [(.con (.int 2)), (.bi .len [(.var 0)])])])) [some (.sh (.lst (ns.map .int))), none, none, none, none, none, none, none, none, none, none, none, none, none, none, none] [] = .ok [.int 0] [] := by
      simp only [DI.Ev.ss_nil, DI.Ev.ss_cons, DI.Ev.st_try, DI.Ev.ee_0, DI.Ev.ee_1, DI.Ev.ee_2, DI.Ev.ee_3, DI.Ev.ee_4, DI.Ev.ee_5, DI.Ev.ee_6, DI.Ev.ee_7, DI.Ev.ee_8, DI.Ev.ee_9, DI.Ev.ee_10, DI.Ev.ee_11, DI.Ev.ee_12, DI.Ev.ee_13, DI.Ev.ee_14, DI.Ev.ee_15, DI.Ev.ee_16, DI.Ev.ee_17, DI.Ev.ee_18, DI.Ev.ee_19, DI.Ev.ee_20, DI.Ev.ee_21, DI.Ev.ee_22, DI.Ev.ee_23, DI.Ev.ee_24, DI.Ev.ee_25, DI.Ev.ee_26, DI.Ev.ee_27, DI.Ev.ee_28, DI.Ev.ee_29, DI.Ev.ee_30, DI.Ev.es_0, DI.Ev.es_1, DI.Ev.eo_0, DI.Ev.eo_1, DI.Ev.ec_0, DI.Ev.ec_1, DI.Ev.ei_0, DI.Ev.ei_1, DI.Ev.ei_2, DI.Ev.ei_3, DI.Ev.ei_4, DI.Ev.ei_5, DI.Ev.ei_6, DI.Ev.st_0, DI.Ev.st_1, DI.Ev.st_2, DI.Ev.st_3, DI.Ev.st_4, DI.Ev.st_5, DI.Ev.st_6, DI.Ev.st_7, DI.Ev.st_8, DI.Ev.st_9, DI.Ev.st_10, DI.Ev.st_11, DI.Ev.st_12, DI.Ev.st_13, DI.Ev.st_14, DI.Ev.st_17, DI.Ev.st_18, DI.Ev.st_19, DI.Ev.st_20, evH, DI.Ev.compX_nil, DI.Ev.compX_cons, DI.Ev.noX_ok, ↓reduceIte, DI.T.slots, DI.T.slotss, DI.wipeS, DI.Ev.bind_ok, DI.Ev.bind_exc, DI.Ev.out_ok, DI.Ev.out_exc, DI.Ev.seq_nx, DI.Ev.seq_ret, DI.Ev.seq_exc, DI.Ev.seq_brk, DI.Ev.seq_ct, DI.Ev.rnd_nx, DI.Ev.rnd_ct, DI.Ev.rnd_brk, DI.Ev.rnd_ret, DI.Ev.rnd_exc, DI.Ev.tr_nx, DI.Ev.tr_ret, DI.Ev.tr_exc, DI.Ev.fin_ret, DI.Ev.fin_nx, DI.Ev.fin_exc, DI.Ev.st_for, DI.Ev.forF_eq, DI.Ev.e_lcomp, DI.Ev.e_dcomp, DI.Ev.compF_eq, DI.Ev.compG_eq, DI.Ev.forX_cons, DI.Ev.forX_nil, DI.Ev.evF_eq, DI.Ev.nxO_some, DI.Ev.asg_var, DI.Ev.asg_tup, DI.Ev.asg_lst, DI.Ev.asgs_nil, DI.Ev.asgs_cons, DI.Ev.obind, DI.Ev.lift_some, DI.Ev.call_some, DI.Ev.bin_add, DI.Ev.bin_sub, DI.Ev.negD_int, DI.Ev.cmp_lt, DI.Ev.cmp_le, DI.Ev.cmp_gt, DI.Ev.cmp_ge, DI.Ev.cmp_eqI, DI.Ev.cmp_neI, DI.Ev.cmp_eqB, DI.Ev.cmp_neB, DI.Ev.cmp_eqT, splD, List.length_cons, List.length_nil, Nat.reduceAdd, Nat.reduceSub, Nat.reduceLeDiff, Nat.reduceLT, Nat.le_refl, List.cons_append, List.nil_append, List.append_nil, List.map_cons, List.map_nil, List.replicate, List.getElem?_cons_zero, List.getElem?_cons_succ, List.getElem?_nil, List.set_cons_zero, List.set_cons_succ, if_true, if_false, ite_true, ite_false, and_self, and_true, true_and, reduceCtorEq, Bool.not_true, Bool.not_false, decide_true, decide_false, maxLen, bi_len, List.length_map, bi_min, bi_max, h1, GT.gt, show rngD 0 1 = some [.int 0] from rfl]
    rw [hi, out_ok, forX_cons, f (σ' := [some (.sh (.lst (ns.map .int))), some (.sh (.int 0)), none, none, none, none, none, none, none, none, none, none, none, none, none, none]) rfl, e1, rnd_nx]
    simp only [DI.Ev.ss_nil, DI.Ev.ss_cons, DI.Ev.st_try, DI.Ev.ee_0, DI.Ev.ee_1, DI.Ev.ee_2, DI.Ev.ee_3, DI.Ev.ee_4, DI.Ev.ee_5, DI.Ev.ee_6, DI.Ev.ee_7, DI.Ev.ee_8, DI.Ev.ee_9, DI.Ev.ee_10, DI.Ev.ee_11, DI.Ev.ee_12, DI.Ev.ee_13, DI.Ev.ee_14, DI.Ev.ee_15, DI.Ev.ee_16, DI.Ev.ee_17, DI.Ev.ee_18, DI.Ev.ee_19, DI.Ev.ee_20, DI.Ev.ee_21, DI.Ev.ee_22, DI.Ev.ee_23, DI.Ev.ee_24, DI.Ev.ee_25, DI.Ev.ee_26, DI.Ev.ee_27, DI.Ev.ee_28, DI.Ev.ee_29, DI.Ev.ee_30, DI.Ev.es_0, DI.Ev.es_1, DI.Ev.eo_0, DI.Ev.eo_1, DI.Ev.ec_0, DI.Ev.ec_1, DI.Ev.ei_0, DI.Ev.ei_1, DI.Ev.ei_2, DI.Ev.ei_3, DI.Ev.ei_4, DI.Ev.ei_5, DI.Ev.ei_6, DI.Ev.st_0, DI.Ev.st_1, DI.Ev.st_2, DI.Ev.st_3, DI.Ev.st_4, DI.Ev.st_5, DI.Ev.st_6, DI.Ev.st_7, DI.Ev.st_8, DI.Ev.st_9, DI.Ev.st_10, DI.Ev.st_11, DI.Ev.st_12, DI.Ev.st_13, DI.Ev.st_14, DI.Ev.st_17, DI.Ev.st_18, DI.Ev.st_19, DI.Ev.st_20, evH, DI.Ev.compX_nil, DI.Ev.compX_cons, DI.Ev.noX_ok, ↓reduceIte, DI.T.slots, DI.T.slotss, DI.wipeS, DI.Ev.bind_ok, DI.Ev.bind_exc, DI.Ev.out_ok, DI.Ev.out_exc, DI.Ev.seq_nx, DI.Ev.seq_ret, DI.Ev.seq_exc, DI.Ev.seq_brk, DI.Ev.seq_ct, DI.Ev.rnd_nx, DI.Ev.rnd_ct, DI.Ev.rnd_brk, DI.Ev.rnd_ret, DI.Ev.rnd_exc, DI.Ev.tr_nx, DI.Ev.tr_ret, DI.Ev.tr_exc, DI.Ev.fin_ret, DI.Ev.fin_nx, DI.Ev.fin_exc, DI.Ev.st_for, DI.Ev.forF_eq, DI.Ev.e_lcomp, DI.Ev.e_dcomp, DI.Ev.compF_eq, DI.Ev.compG_eq, DI.Ev.forX_cons, DI.Ev.forX_nil, DI.Ev.evF_eq, DI.Ev.nxO_some, DI.Ev.asg_var, DI.Ev.asg_tup, DI.Ev.asg_lst, DI.Ev.asgs_nil, DI.Ev.asgs_cons, DI.Ev.obind, DI.Ev.lift_some, DI.Ev.call_some, DI.Ev.bin_add, DI.Ev.bin_sub, DI.Ev.negD_int, DI.Ev.cmp_lt, DI.Ev.cmp_le, DI.Ev.cmp_gt, DI.Ev.cmp_ge, DI.Ev.cmp_eqI, DI.Ev.cmp_neI, DI.Ev.cmp_eqB, DI.Ev.cmp_neB, DI.Ev.cmp_eqT, splD, List.length_cons, List.length_nil, Nat.reduceAdd, Nat.reduceSub, Nat.reduceLeDiff, Nat.reduceLT, Nat.le_refl, List.cons_append, List.nil_append, List.append_nil, List.map_cons, List.map_nil, List.replicate, List.getElem?_cons_zero, List.getElem?_cons_succ, List.getElem?_nil, List.set_cons_zero, List.set_cons_succ, if_true, if_false, ite_true, ite_false, and_self, and_true, true_and, reduceCtorEq, Bool.not_true, Bool.not_false, decide_true, decide_false, maxLen]
end K56
end

section
set_option Elab.async false
set_option linter.all false
set_option maxRecDepth 100000
set_option maxHeartbeats 0
open PySem PySem.W PySem.Calls PyProof.Rows
theorem PySem.Challenge.cw_pledgepools_k56_rules_over_rows_of_uses_holds : PySem.Challenge.rw_pledgepools_k56_rules_over_rows_of_uses.Holds := by
  w_on; o_law
  refine HandSHeadRun.head_any (r := OpenLaw.row PySem.Challenge.rw_pledgepools_k56_rules_over_rows_of_uses) (q := view (OpenLaw.row PySem.Challenge.rw_pledgepools_k56_rules_over_rows_of_uses).prog [47]) (H := K56.hk) (ob := K56.ob) (M := 4000) (loose := K56.loose) (d := HandSHeadRun.topDef (OpenLaw.row PySem.Challenge.rw_pledgepools_k56_rules_over_rows_of_uses).prog 47) (kwd := []) K56.ob_eq
    (by kernel_rfl) (fun s => by kernel_rfl) K56.run (by kernel_rfl) (by kernel_rfl) (by kernel_rfl) (by rfl) (by first | assumption | decide +kernel) (by decide +kernel) ⟨rfl, rfl, rfl, rfl, rfl, by decide +kernel⟩ ?hw ?hc
  case hw => w_witness2
  case hc =>
    refine DI.law_end (l := PySem.Challenge.rw_pledgepools_k56_rules_over_rows_of_uses) (n := 63) (k := 120) (x := "_law_script") (N := K56.N_law) (ir := K56.ir_law) (g := K56.g_law) rfl (by decide) (by kernel_rfl) ⟨rfl, by decide, by decide⟩ (by decide) K56.tp.nol ?F fun ns _ => K56.law_ok ns
    intro w mg fa h K KX c G hmg0
    have hmg : mg ("law" : PySem.Str) = some (.ref fa) := by
      have e : (HandSHeadRun.topDef (OpenLaw.row PySem.Challenge.rw_pledgepools_k56_rules_over_rows_of_uses).prog 47).name = ("law" : PySem.Str) := by kernel_rfl
      rw [← e]
      exact hmg0
    have C : ∀ base, DI.Ctx K56.tp PySem.Challenge.rw_pledgepools_k56_rules_over_rows_of_uses.prog w K mg base := fun base => DI.Ctx.of KX G c
    obtain ⟨fd, F⟩ := c.def_ (d := K56.d_law) (by simp [K56.tp, K56.fn])
    have e := hmg.symm.trans ((C h).mg "law" (by simp [K56.tp, K56.fa]))
    cases e
    refine ⟨fd, fun s u => L2.FunD.bindsA (ps := ["_law_script"]) F (fun _ _ _ _ _ _ us hl => match us, hl with | [_], _ => rfl) s [u] rfl, fun base X' G' => ?_⟩
    obtain ⟨fd', F', G⟩ := K56.f_law (C base)
    obtain ⟨oc, od, dV, kV, doc, pm, an, cdv, ct, osl, e1, lk, _⟩ := F.ex
    obtain ⟨oc', od', dV', kV', doc', pm', an', cdv', ct', osl', e1', lk', _⟩ := F'.ex
    have e2 := lk.symm.trans lk'
    cases e2
    exact G
end
