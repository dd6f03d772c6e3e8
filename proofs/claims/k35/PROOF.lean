import PyProof.Rows.All
import Wide.All
import OpenK.AllK
import Wide.FinOn
import KE.SortKeyHeap
import HandS.ForMost
import HandS.Evl
import HandS.Zip
import HandS.IsInst
import HandS.Conv
import HandS.TupAny
import HandS.Wide
import HandS.NoneIn
import HandS.Exc
import HandS.Lambda
import HandS.TupMul
import HandS.SortInts
import KE.GoesEnumKw
import HandS.Iter
import HandS.Dict
import HandS.ExcInit
import HandS.ExcSuper
import HandS.ExcField
import HandS.ExcIs
import HandS.TryMany
import HandS.Style
import HandS.FStr
import PyProof.Rows.StrRev
import HandS.SortKw
import KE.DataMinKey
import HandS.DictComp
import KE.KUnpackStar
import HandS.HeadHook3
import HandS.EndTab
import HandS.NestedK
import PySem.Challenge.RW_packedforms_k35_whole_no_placing_has_few
set_option Elab.async false
set_option maxRecDepth 100000
set_option linter.all false
set_option autoImplicit false
set_option maxHeartbeats 4000000
namespace Pv
open PySem

/-! ## data -/
inductive D where
  | non | bl (b : Bool) | int (i : Int) | str (x : Str) | tup (xs : List D) | lst (xs : List D) | frz (xs : List D) | ref (l : Nat) | obj (l : Nat) | dic (l : Nat) | gl (nm : Str)
  deriving Inhabited
/-- what can be changed: a list, an instance of the class of a name, a dict of whole and written keys -/
inductive MO where
  | lst (xs : List D) | ins (nm : Str) (fs : List (Str × D)) | dct (kvs : List (D × D))
  deriving Inhabited
abbrev M := List MO
abbrev Env := List (Option D)

mutual
def beqD : D → D → Bool
  | .non, .non => true
  | .bl a, .bl b => a == b
  | .int a, .int b => decide (a = b)
  | .str a, .str b => decide (a = b)
  | .tup a, .tup b => beqDs a b
  | .lst a, .lst b => beqDs a b
  | .frz a, .frz b => beqDs a b
  | .ref a, .ref b => decide (a = b)
  | .obj a, .obj b => decide (a = b)
  | .dic a, .dic b => decide (a = b)
  | .gl a, .gl b => decide (a = b)
  | _, _ => false
def beqDs : List D → List D → Bool
  | [], [] => true
  | a :: r, b :: q => beqD a b && beqDs r q
  | _, _ => false
end
mutual
theorem beqD_eq : ∀ {a b : D}, beqD a b = true ↔ a = b
  | .non, b => by cases b <;> simp [beqD]
  | .bl _, b => by cases b <;> simp [beqD]
  | .int _, b => by cases b <;> simp [beqD]
  | .str _, b => by cases b <;> simp [beqD]
  | .tup x, b => by cases b <;> simp [beqD, beqDs_eq (a := x)]
  | .lst x, b => by cases b <;> simp [beqD, beqDs_eq (a := x)]
  | .frz x, b => by cases b <;> simp [beqD, beqDs_eq (a := x)]
  | .ref _, b => by cases b <;> simp [beqD]
  | .obj _, b => by cases b <;> simp [beqD]
  | .dic _, b => by cases b <;> simp [beqD]
  | .gl _, b => by cases b <;> simp [beqD]
theorem beqDs_eq : ∀ {a b : List D}, beqDs a b = true ↔ a = b
  | [], b => by cases b <;> simp [beqDs]
  | x :: r, b => by cases b <;> simp [beqDs, beqD_eq (a := x), beqDs_eq (a := r)]
end
instance : DecidableEq D := fun a b => decidable_of_iff (beqD a b = true) beqD_eq
instance : DecidableEq MO := fun a b => match a, b with
  | .lst x, .lst y => decidable_of_iff (x = y) (by simp)
  | .ins n x, .ins k y => decidable_of_iff (n = k ∧ x = y) (by simp)
  | .dct x, .dct y => decidable_of_iff (x = y) (by simp)
  | .lst _, .ins _ _ => isFalse (by simp)
  | .lst _, .dct _ => isFalse (by simp)
  | .ins _ _, .lst _ => isFalse (by simp)
  | .ins _ _, .dct _ => isFalse (by simp)
  | .dct _, .lst _ => isFalse (by simp)
  | .dct _, .ins _ _ => isFalse (by simp)

/-! no reference to a mutable thing (nor the script) within -/
mutual
def pure_ : D → Bool
  | .tup xs => pures xs
  | .lst xs => pures xs
  | .frz _ => false
  | .ref _ => false
  | .obj _ => false
  | .dic _ => false
  | .gl _ => false
  | _ => true
def pures : List D → Bool
  | [] => true
  | x :: r => pure_ x && pures r
end
mutual
def toP : D → PyData
  | .non => .none
  | .bl b => .bool b
  | .int i => .int i
  | .str x => .str x
  | .tup xs => .tuple (toPs xs)
  | .lst xs => .list (toPs xs)
  | .frz _ => .none
  | .ref _ => .none
  | .obj _ => .none
  | .dic _ => .none
  | .gl _ => .none
def toPs : List D → List PyData
  | [] => []
  | x :: r => toP x :: toPs r
end

def lim : Nat := 16777216
/-- what is read at a value -/
def deref (m : M) : D → D
  | .ref l => match m[l]? with
    | some (.lst xs) => .lst xs
    | _ => .ref l
  | d => d

/-! ## the form of the terms -/
inductive BOp where
  | add | sub | mul | fdiv | mod | pow | shl
  deriving DecidableEq
inductive COp where
  | eq | ne | lt | le | gt | ge | isin | notin
  deriving DecidableEq
inductive BI where
  | len | int | tuple | list | sum | all | any | max2 | min2 | sorted | min1 | max1 | str
  deriving DecidableEq
/-- what becomes of what a call made: it stays, it goes, its list is a plain one -/
inductive CM where
  | pl | gc | fr
  deriving DecidableEq
inductive Ty where
  | int | bool | str | tuple
  deriving DecidableEq
mutual
inductive Tg where
  | nm (i : Nat) | tp (ts : Tgs) | up (ts : Tgs)
inductive Tgs where
  | nil | cons (t : Tg) (ts : Tgs)
end
mutual
inductive E where
  | nop
  | var (i : Nat)
  | con (d : D)
  | glob (k : Nat)
  | bin (op : BOp) (a b : E)
  | neg (a : E)
  | cmp (op : COp) (a b : E)
  | chain (o p : COp) (a b c : E)
  | isN (a : E)
  | notN (a : E)
  | and_ (a b : E)
  | and1 (a : E)
  | or_ (a b : E)
  | or1 (a : E)
  | not_ (a : E)
  | ife (c a b : E)
  | call (f : Nat) (as : Es)
  | callG (f : Nat) (as : Es)
  | callF (f : Nat) (as : Es)
  | callD (md : CM) (f : Nat) (as : Es) (dfs : List D)
  | meth (a : E) (c nm : Str) (f : Nat) (as : Es)
  | methG (a : E) (c nm : Str) (f : Nat) (as : Es)
  | mk (c : Str) (f : Nat) (as : Es)
  | attr (a : E) (c f : Str)
  | xat (i : Nat) (f : Str)
  | xis (i : Nat) (cs : List Str) (yes : List Str)
  | dnew
  | dget (a b : E)
  | dgetD (a b c : E)
  | dcomp (own : List (Str × Nat)) (t : Tg) (it : It) (k e : E)
  | stp (a c : E)
  | gin (nm : Str) (t : List (Str × D)) (ng : Bool) (a : E)
  | gix (nm : Str) (t : List (Str × D)) (a : E)
  | compR (own : List (Str × Nat)) (t : Tg) (v e : E)
  | compIR (own : List (Str × Nat)) (t : Tg) (v c e : E)
  | bi (b : BI) (as : Es)
  | isi (a : E) (t : Ty)
  | listRg (a : E)
  | sortK (a : E) (i : Nat) (k : E)
  | minK (a : E) (i : Nat) (k : E)
  | ix (a b : E)
  | sl (a lo hi : E)
  | tup (as : Es)
  | lst (as : Es)
  | comp (own : List (Str × Nat)) (t : Tg) (it : It) (e : E)
  | compIf (own : List (Str × Nat)) (t : Tg) (it : It) (c e : E)
  | comp2 (own : List (Str × Nat)) (t : Tg) (it : It) (vs1 : List Nat) (t1 : Tg) (b c e : E)
  | box (a : E)
  | pop (a : E)
  | popAt (a b : E)
  | append (a b : E)
  | rev (a : E)
  | join (a b : E)
  | fmt (a : E)
  | fstr (as : Es)
  | dead
  | isB (a : E) (b : Bool)
  | index (a b : E)
inductive Es where
  | nil | cons (e : E) (es : Es)
inductive It where
  | seq (e : E) | rng1 (e : E) | rng2 (a b : E) | zip (a b : E) | zipS (a b : E) | enum (e : E) | dvals (e : E) | txt (e : E)
end
mutual
inductive S where
  | asg (t : Tg) (e : E)
  | setix (o i e : E)
  | aug (i : Nat) (op : BOp) (e : E)
  | ex (e : E)
  | ife (c : E) (a b : Ss)
  | for_ (t : Tg) (it : It) (b : Ss)
  | while_ (c : E) (b : Ss)
  | ret (e : E)
  | brk | cont | dead | pass | retN
  | setat (o : E) (c f : Str) (e : E)
  | augat (o : E) (c f : Str) (op : BOp) (e : E)
  | raise_ (c : Str) (as : Es)
  | try_ (b : Ss) (hs : Hs) (els : Ss)
  | forR (t : Tg) (v : E) (b : Ss)
  | star (i j : Nat) (e : E)
inductive Ss where
  | nil | cons (s : S) (ss : Ss)
/-- except clauses: the class, which classes it takes, the name's slot, the suite -/
inductive Hs where
  | nil | cons (c : Str) (yes no : List Str) (i : Option Nat) (b : Ss) (hs : Hs)
end

/-! ## operators -/
def small (i : Int) : Bool := decide (-(2 ^ 64) < i) && decide (i < 2 ^ 64)
def mulOk (i j : Int) : Bool := small i || small j || decide (i.natAbs.log2 + j.natAbs.log2 < 1000000)
def divOk (j : Int) : Bool := decide (0 < j) && decide (j.natAbs.log2 < 9000)
def addD (m : M) : D → D → Option D
  | .int i, .int j => some (.int (i + j))
  | .str x, .str y => if x.length + y.length ≤ lim then some (.str (x ++ y)) else none
  | .tup x, .tup y => if x.length + y.length ≤ lim then some (.tup (x ++ y)) else none
  | x, y => match deref m x, deref m y with
    | .lst a, .lst b => if a.length + b.length ≤ lim then some (.lst (a ++ b)) else none
    | _, _ => none
def mulD (m : M) : D → D → Option D
  | .int i, .int j => if mulOk i j then some (.int (i * j)) else none
  | x, .int k => match deref m x with
    | .lst a => if small k && decide (-(2 ^ 63) ≤ k) && decide (k < 2 ^ 63) && decide (a.length * k.toNat ≤ lim) then some (.lst (List.replicate k.toNat a).flatten) else none
    | .tup a => if decide (-1000 ≤ k) && decide (k ≤ 1000) && decide (a.length ≤ 1000) then some (.tup (List.replicate k.toNat a).flatten) else none
    | _ => none
  | _, _ => none
def subD : D → D → Option D
  | .int i, .int j => some (.int (i - j))
  | _, _ => none
def fdivD : D → D → Option D
  | .int i, .int j => if divOk j then some (.int (i / j)) else if decide (j < 0) && decide (j.natAbs.log2 < 9000) then some (.int (i.fdiv j)) else none
  | _, _ => none
def modD : D → D → Option D
  | .int i, .int j => if 0 < j then some (.int (i % j)) else if j < 0 then some (.int (i.fmod j)) else none
  | _, _ => none
def powOk (i j : Int) : Bool := decide (0 ≤ j) && decide (j ≤ 1000000) && decide (i.natAbs < 2 ^ 64)
def powOk2 (i j : Int) : Bool := decide (0 ≤ j) && decide (j ≤ 100) && decide (i.natAbs.log2 < 5000)
def powD : D → D → Option D
  | .int i, .int j => if powOk i j then some (.int (i ^ j.toNat)) else if powOk2 i j then some (.int (i ^ j.toNat)) else none
  | _, _ => none
def shlD : D → D → Option D
  | .int i, .int j => if powOk i j then some (.int (i * 2 ^ j.toNat)) else none
  | _, _ => none
def bopD (m : M) : BOp → D → D → Option D
  | .add => addD m
  | .sub => subD
  | .mul => mulD m
  | .fdiv => fdivD
  | .mod => modD
  | .pow => powD
  | .shl => shlD
def eqOk (x y : D) : Bool := pure_ x && pure_ y && (toP x).canLay0 && (toP y).canLay0 && decide (min (toP x).depth (toP y).depth ≤ 64)
def eqD (m : M) : D → D → Option Bool
  | .int i, .int j => some (decide (i = j))
  | .str x, .str y => some (decide (x = y))
  | .bl x, .bl y => some (x == y)
  | x, y => if eqOk (deref m x) (deref m y) then some (PyData.eqv (toP (deref m x)) (toP (deref m y))) else none
def flatD : D → Bool
  | .non => true | .bl _ => true | .int _ => true | .str _ => true | _ => false
def eqF : D → D → Bool
  | .non, .non => true
  | .bl a, .bl b => a == b
  | .bl a, .int b => (if a then 1 else 0) == b
  | .int a, .bl b => a == (if b then 1 else 0)
  | .int a, .int b => a == b
  | .str a, .str b => a == b
  | _, _ => false
def seqOf (m : M) (d : D) : Option (List D) := match deref m d with
  | .tup xs => some xs
  | .lst xs => some xs
  | _ => none
def inD (m : M) (x y : D) : Option Bool := match seqOf m y with
  | some ys => if flatD x && ys.all flatD then some (ys.any fun z => eqF z x) else none
  | none => none
def ordD (f : Int → Int → Bool) : D → D → Option Bool
  | .int i, .int j => some (f i j)
  | _, _ => none
def cmpD (m : M) : COp → D → D → Option Bool
  | .eq => eqD m
  | .ne => fun x y => (eqD m x y).map (!·)
  | .lt => ordD fun i j => decide (i < j)
  | .le => ordD fun i j => decide (i ≤ j)
  | .gt => ordD fun i j => decide (j < i)
  | .ge => ordD fun i j => decide (j ≤ i)
  | .isin => inD m
  | .notin => fun x y => (inD m x y).map (!·)
def intsD : List D → Option (List Int)
  | [] => some []
  | .int i :: r => (intsD r).map (i :: ·)
  | _ => none
def bools : List D → Option (List Bool)
  | [] => some []
  | .bl i :: r => (bools r).map (i :: ·)
  | _ => none
def lenD (m : M) (d : D) : Option Int := match deref m d with
  | .tup xs => some xs.length
  | .lst xs => some xs.length
  | .frz xs => some xs.length
  | .str x => if x.length ≤ lim then some x.length else none
  | _ => none
def leastD : List Int → Option Int
  | [] => none
  | n :: r => some (r.foldl (fun a b => if b < a then b else a) n)
def mostD : List Int → Option Int
  | [] => none
  | n :: r => some (r.foldl (fun a b => if a < b then b else a) n)
def sortD (ns : List Int) : List Int := ns.mergeSort (fun a b => decide (a ≤ b))
def biD (m : M) : BI → List D → Option D
  | .len, [x] => (lenD m x).map .int
  | .int, [.int i] => some (.int i)
  | .int, [.bl b] => some (.int (if b then 1 else 0))
  | .tuple, [x] => (seqOf m x).map .tup
  | .list, [.str z] => if z.length ≤ lim then some (.lst (z.cps.toList.map fun c => .str ⟨#[c]⟩)) else none
  | .list, [x] => (seqOf m x).map .lst
  | .sum, [x] => match deref m x with
    | .lst xs => (intsD xs).map fun ns => .int ns.sum
    | _ => none
  | .all, [x] => match deref m x with
    | .lst xs => (bools xs).map fun bs => .bl (bs.all id)
    | _ => none
  | .any, [x] => match deref m x with
    | .lst xs => (bools xs).map fun bs => .bl (bs.any id)
    | _ => none
  | .sorted, [x] => (seqOf m x).bind fun xs => (intsD xs).map fun ns => .lst ((sortD ns).map .int)
  | .min1, [x] => match deref m x with
    | .lst xs => (intsD xs).bind fun ns => (leastD ns).map .int
    | _ => none
  | .max1, [x] => match deref m x with
    | .lst xs => (intsD xs).bind fun ns => (mostD ns).map .int
    | _ => none
  | .max2, [.int i, .int j] => some (.int (if j > i then j else i))
  | .min2, [.int i, .int j] => some (.int (if j < i then j else i))
  | .str, [.int i] => if i.natAbs.log2 < 1920 then some (.str (toString i)) else none
  | _, _ => none
def isiD : D → Ty → Option Bool
  | .non, _ => some false
  | .bl _, .int => some true
  | .bl _, .bool => some true
  | .bl _, _ => some false
  | .int _, .int => some true
  | .int _, _ => some false
  | .str _, .str => some true
  | .str _, _ => some false
  | .tup _, .tuple => some true
  | .tup _, _ => some false
  | .lst _, _ => some false
  | _, _ => none
/-- the place that an index names -/
def ixAt (n : Nat) (i : Int) : Option Nat := if 0 ≤ i then (if i < n then some i.toNat else none) else if -(n : Int) ≤ i then some (i + n).toNat else none
def atD (xs : List D) (i : Int) : Option D := (ixAt xs.length i).bind fun j => xs[j]?
def ixD (m : M) (x y : D) : Option D := match y with
  | .int i => match deref m x with
    | .tup xs => atD xs i
    | .lst xs => atD xs i
    | .frz xs => atD xs i
    | .str z => if z.length ≤ lim then ((ixAt z.cps.toList.length i).bind fun j => z.cps.toList[j]?).map fun c => .str ⟨#[c]⟩ else none
    | _ => none
  | _ => none
def sIx (n d : Nat) : Option Int → Nat
  | none => d
  | some v => if v < 0 then (v + n).toNat else min v.toNat n
def cutD (xs : List D) (lo hi : Option Int) : List D := (xs.drop (sIx xs.length 0 lo)).take (sIx xs.length xs.length hi - sIx xs.length 0 lo)
def cutT (z : Str) (lo hi : Option Int) : Str := ⟨((z.cps.toList.drop (sIx z.length 0 lo)).take (sIx z.length z.length hi - sIx z.length 0 lo)).toArray⟩
def slD (m : M) (x : D) (lo hi : Option Int) : Option D := match deref m x with
  | .tup xs => some (.tup (cutD xs lo hi))
  | .lst xs => some (.lst (cutD xs lo hi))
  | .frz xs => some (.lst (cutD xs lo hi))
  | .str z => if z.length ≤ lim then some (.str (cutT z lo hi)) else none
  | _ => none
def revT (z : Str) : Str := ⟨z.cps.toList.reverse.toArray⟩
def revD (m : M) (x : D) : Option D := match deref m x with
  | .lst xs => some (.lst xs.reverse)
  | .str z => if z.length ≤ lim then some (.str (revT z)) else none
  | _ => none
/-- xs[::k], k being 1 or -1 -/
def stpD (m : M) (x y : D) : Option D := match y with
  | .int k => match deref m x with
    | .lst xs => if k = 1 then some (.lst xs) else if k = -1 then some (.lst xs.reverse) else none
    | _ => none
  | _ => none
def strsD : List D → Option (List Str)
  | [] => some []
  | .str i :: r => (strsD r).map (i :: ·)
  | _ => none
def joinD (m : M) : D → D → Option D
  | .str a, y => (seqOf m y).bind fun ys => (strsD ys).bind fun ss => if (ss.map (·.length)).sum + ss.length * a.length ≤ lim then some (.str (Str.join a ss)) else none
  | _, _ => none
def txtD : D → Option D
  | .str y => if y.length ≤ lim then some (.str y) else none
  | .int i => if i.natAbs.log2 < 1920 then some (.str (toString i)) else none
  | _ => none
def gluD : Str → List D → Option Str
  | acc, [] => some acc
  | acc, .str y :: r => if (acc ++ y).length ≤ lim then gluD (acc ++ y) r else none
  | _, _ => none

/-- the first place of an equal thing -/
def indexD (m : M) (x y : D) : Option D := match deref m x with
  | .lst xs => if flatD y && xs.all flatD then (xs.findIdx? fun z => eqF z y).map fun (j : Nat) => D.int (j : Int) else none
  | _ => none
/-! no reference from n on -/
mutual
def below (n : Nat) : D → Bool
  | .tup xs => belows n xs
  | .lst xs => belows n xs
  | .frz xs => belows n xs
  | .ref l => decide (l < n)
  | .obj l => decide (l < n)
  | .dic l => decide (l < n)
  | _ => true
def belows (n : Nat) : List D → Bool
  | [] => true
  | x :: r => below n x && belows n r
end
/-- what is kept of a thing that can be changed -/
def belowO (n : Nat) : MO → Bool
  | .lst xs => belows n xs
  | .ins _ fs => belows n (fs.map (·.2))
  | .dct kvs => belows n (kvs.map (·.2))
/-- an exception: its class, its fields -/
structure XV where
  nm : Str
  fs : List (Str × D)
  deriving Inhabited
/-- stuck; a value; an exception -/
inductive Rz (α : Type) where
  | no | ok (a : α) (m : M) | ex (x : XV) (m : M)
def Rz.bind {α β : Type} (r : Rz α) (f : α → M → Rz β) : Rz β := match r with
  | .no => .no
  | .ok a m => f a m
  | .ex x m => .ex x m
def Rz.of {α : Type} (o : Option α) (m : M) : Rz α := match o with
  | some a => .ok a m
  | none => .no
abbrev O1 := Rz D
abbrev OA := Rz (List D)
/-- whether a memory behind a call names nothing new at the old places -/
def keptB (m m' : M) : Bool := decide (m.length ≤ m'.length) && (List.range m.length).all fun i => decide (m'[i]? = m[i]?) || (match m'[i]? with
  | some o => belowO m.length o
  | none => false)
/-- what was made anew in a call goes -/
def gcD (m : M) (r : O1) : O1 := match r with
  | .no => .no
  | .ok d m' => if keptB m m' && below m.length d then .ok d (m'.take m.length) else .no
  | .ex x m' => if keptB m m' && belows m.length (x.fs.map (·.2)) then .ex x (m'.take m.length) else .no
/-- a new list that a def hands out: a value from now on -/
def freshD (m : M) (r : O1) : O1 := match r with
  | .no => .no
  | .ok d m' => (match d with
    | .ref l => (match m'[l]? with
      | some (.lst xs) => if m.length ≤ l ∧ pures xs = true ∧ keptB m m' = true then .ok (.lst xs) (m'.take m.length) else .no
      | _ => .no)
    | _ => .no)
  | .ex x m' => if keptB m m' && belows m.length (x.fs.map (·.2)) then .ex x (m'.take m.length) else .no
/-! ## the evaluator -/
mutual
def bindTg (m : M) : Tg → D → Env → Option Env
  | .nm i, d, env => some (env.set i (some d))
  | .tp ts, .tup ds, env => bindTgs m ts ds env
  | .tp _, _, _ => none
  | .up ts, d, env => match deref m d with
    | .lst ds => bindTgs m ts ds env
    | _ => none
def bindTgs (m : M) : Tgs → List D → Env → Option Env
  | .nil, [], env => some env
  | .cons t ts, d :: ds, env => (bindTg m t d env).bind fun e => bindTgs m ts ds e
  | _, _, _ => none
end
def wipeE (env : Env) : List Nat → Env
  | [] => env
  | v :: vs => (wipeE env vs).set v none
abbrev Fn := Nat → List D → M → O1
/-- no exception leaves a comprehension's element -/
def calmR {α : Type} (r : Rz α) : Option (α × M) := match r with
  | .ok a m => some (a, m)
  | _ => none
def compL (t : Tg) (env : Env) (te : Env → M → O1) : List D → M → Option (List D × M)
  | [], m => some ([], m)
  | d :: ds, m => (bindTg m t d env).bind fun e => (calmR (te e m)).bind fun p => (compL t env te ds p.2).bind fun q => some (p.1 :: q.1, q.2)
def compLI (t : Tg) (env : Env) (tc te : Env → M → O1) : List D → M → Option (List D × M)
  | [], m => some ([], m)
  | d :: ds, m => (bindTg m t d env).bind fun e => (calmR (tc e m)).bind fun c => match c.1 with
    | .bl true => (calmR (te e c.2)).bind fun p => (compLI t env tc te ds p.2).bind fun q => some (p.1 :: q.1, q.2)
    | .bl false => compLI t env tc te ds c.2
    | _ => none
/-! a list that can be changed is walked: it must stay while that goes on -/
def lstAt (m : M) : D → Option (Nat × List D)
  | .ref l => match m[l]? with
    | some (.lst xs) => some (l, xs)
    | _ => none
  | _ => none
def gdE (l : Nat) (xs : List D) (te : Env → M → O1) (env : Env) (m : M) : O1 := if m[l]? = some (MO.lst xs) then te env m else .no
def endL (l : Nat) (xs : List D) (o : Option (List D × M)) : O1 := match o with
  | some q => if q.2[l]? = some (MO.lst xs) then .ok (.lst q.1) q.2 else .no
  | none => .no
def rangeD (lo : Int) (n : Nat) : List D := (List.range n).map fun (i : Nat) => .int (lo + (i : Int))
def rgOk (i : Int) : Bool := decide (-(2 ^ 62) ≤ i) && decide (i < 2 ^ 62)
def zipD (x y : D) : Option (List D) := match x, y with
  | .tup xs, .tup ys => some (List.zipWith (fun a b => .tup [a, b]) xs ys)
  | .lst xs, .lst ys => some (List.zipWith (fun a b => .tup [a, b]) xs ys)
  | .lst xs, .tup ys => if xs.length = ys.length then some (List.zipWith (fun a b => .tup [a, b]) xs ys) else none
  | .tup xs, .lst ys => if xs.length = ys.length then some (List.zipWith (fun a b => .tup [a, b]) xs ys) else none
  | _, _ => none
def rowD : D → Option (Bool × List D)
  | .tup xs => some (false, xs)
  | .lst xs => some (true, xs)
  | _ => none
def zipSD (x y : D) : Option (List D) := (rowD x).bind fun p => (rowD y).bind fun q => if p.2.length = q.2.length then some (List.zipWith (fun a b => .tup [a, b]) p.2 q.2) else none
def enumD (xs : List D) : List D := List.zipWith (fun a b => .tup [a, b]) (rangeD 0 xs.length) xs
def seqI : D → Option (List D)
  | .tup xs => some xs
  | .lst xs => some xs
  | _ => none
def rng1I : D → Option (List D)
  | .int n => if rgOk n then some (rangeD 0 n.toNat) else none
  | _ => none
def rng2I : D → D → Option (List D)
  | .int i, .int j => if rgOk i && rgOk j then some (rangeD i (j - i).toNat) else none
  | _, _ => none
def enumI : D → Option (List D)
  | .tup xs => if xs.length ≤ lim then some (enumD xs) else none
  | .lst xs => if xs.length ≤ lim then some (enumD xs) else none
  | _ => none
def isNop : E → Bool
  | .nop => true
  | _ => false
def partO (f : Env → M → O1) (nop : Bool) (env : Env) (m : M) : Rz (Option Int) :=
  if nop then .ok none m else (f env m).bind fun d m => match d with
    | .int i => .ok (some i) m
    | _ => .no
/-! the changes of things -/
def popM (m : M) : D → O1
  | .ref l => match m[l]? with
    | some (.lst xs) => match xs[xs.length - 1]? with
      | some y => .ok y (m.set l (.lst xs.dropLast))
      | none => .no
    | _ => .no
  | _ => .no
def popAtM (m : M) : D → D → O1
  | .ref l, .int i => match m[l]? with
    | some (.lst xs) => match ixAt xs.length i with
      | some k => match xs[k]? with
        | some y => if decide (-(2 ^ 63) ≤ i) && decide (i < 2 ^ 63) then .ok y (m.set l (.lst (xs.eraseIdx k))) else .no
        | none => .no
      | none => .no
    | _ => .no
  | _, _ => .no
def appendM (m : M) (y : D) : D → O1
  | .ref l => match m[l]? with
    | some (.lst xs) => if xs.length < lim then .ok .non (m.set l (.lst (xs ++ [y]))) else .no
    | _ => .no
  | _ => .no
def fget (f : Str) : List (Str × D) → Option D
  | [] => none
  | (g, d) :: r => if f = g then some d else fget f r
def fput (f : Str) (d : D) : List (Str × D) → List (Str × D)
  | [] => [(f, d)]
  | (g, e) :: r => if g = f then (g, d) :: r else (g, e) :: fput f d r
def attrM (m : M) (c f : Str) : D → Option D
  | .obj l => match m[l]? with
    | some (.ins k fs) => if k = c then fget f fs else none
    | _ => none
  | _ => none
/-- the fields behind o.f = d -/
def setatM (m : M) (c f : Str) (d : D) : D → Option M
  | .obj l => match m[l]? with
    | some (.ins k fs) => if k = c ∧ fs.length < 900 then some (m.set l (.ins k (fput f d fs))) else none
    | _ => none
  | _ => none
/-- an instance of the class c that has no field of the method's name -/
def methM (m : M) (c nm : Str) : D → Bool
  | .obj l => match m[l]? with
    | some (.ins k fs) => decide (k = c) && decide (fget nm fs = none)
    | _ => false
  | _ => false
def keyOf : D → Option D
  | .int i => some (.int i)
  | .str x => some (.str x)
  | _ => none
def kget (k : D) : List (D × D) → Option D
  | [] => none
  | (g, d) :: r => if g = k then some d else kget k r
def kput (k d : D) (kvs : List (D × D)) : List (D × D) := if (kvs.any fun kv => decide (kv.1 = k)) = true then kvs.map (fun kv => if kv.1 = k then (kv.1, d) else kv) else kvs ++ [(k, d)]
def dlook (m : M) : D → D → Option (Option D)
  | .dic l, k => match m[l]? with
    | some (.dct kvs) => (keyOf k).map fun k => kget k kvs
    | _ => none
  | _, _ => none
def dvalsM (m : M) : D → Option (List D)
  | .dic l => match m[l]? with
    | some (.dct kvs) => some (kvs.map (·.2))
    | _ => none
  | _ => none
/-- o[i] = v -/
def setM (m : M) (v : D) : D → D → Option M
  | .ref l, .int k => match m[l]? with
    | some (.lst xs) => match ixAt xs.length k with
      | some j => some (m.set l (.lst (xs.set j v)))
      | none => none
    | _ => none
  | .dic l, k => match m[l]? with
    | some (.dct kvs) => (keyOf k).bind fun k => if kvs.length < 1000000 then some (m.set l (.dct (kput k v kvs))) else none
    | _ => none
  | _, _ => none
def ixM (m : M) (x y : D) : Option D := match x with
  | .dic _ => (dlook m x y).bind id
  | _ => ixD m x y
/-- a dict of the module, read -/
def look : List (Str × D) → Str → Option D
  | [], _ => none
  | p :: r, z => if p.1 = z then some p.2 else look r z
def ginD (t : List (Str × D)) (ng : Bool) : D → Option D
  | .str z => some (.bl (bif ng then !(look t z).isSome else (look t z).isSome))
  | _ => none
def gixD (t : List (Str × D)) : D → Option D
  | .str z => look t z
  | _ => none
/-- the signs of a text -/
def signs (x : Str) : List D := x.cps.toList.map fun c => .str ⟨#[c]⟩
def txtI : D → Option (List D)
  | .str x => if x.cps.size ≤ lim then some (signs x) else none
  | _ => none
/-- one sign in a text -/
def signIn (z : Str) : D → Option Bool
  | .str x => match x.cps.toList with
    | [c] => some (decide (c ∈ z.cps.toList))
    | _ => none
  | _ => none
def inM (m : M) (x y : D) : Option Bool := match y with
  | .dic _ => (dlook m y x).map (·.isSome)
  | .str z => signIn z x
  | _ => inD m x y
def cmpM (m : M) : COp → D → D → Option Bool
  | .isin => inM m
  | .notin => fun x y => (inM m x y).map (!·)
  | op => cmpD m op
/-- a dict comprehension's turns, the dict at l -/
def dcL (t : Tg) (env : Env) (l : Nat) (tk te : Env → M → O1) : List D → M → Option M
  | [], m => some m
  | d :: ds, m => (bindTg m t d env).bind fun e => (calmR (tk e m)).bind fun k => (calmR (te e k.2)).bind fun p => (setM p.2 p.1 (.dic l) k.1).bind fun m => dcL t env l tk te ds m
def augD (op : BOp) : D → D → Option D
  | .int a, .int b => match op with
    | .add => some (.int (a + b))
    | .sub => some (.int (a - b))
    | .mul => if mulOk a b && (small a || small b) then some (.int (a * b)) else none
    | _ => none
  | _, _ => none
def notD : D → Option D
  | .bl k => some (.bl (!k))
  | _ => none
def negD : D → Option D
  | .int i => some (.int (-i))
  | _ => none
def isBD (b : Bool) : D → Option D
  | .bl k => some (.bl (decide (k = b)))
  | _ => none
def listRgD : D → Option D
  | .int n => if rgOk n && decide (n.toNat ≤ lim) then some (.lst (rangeD 0 n.toNat)) else none
  | _ => none
def tupD (ds : List D) : Option D := if ds.length ≤ lim then some (.tup ds) else none
def lstD (ds : List D) : Option D := if ds.length ≤ lim then some (.lst ds) else none
def boxM (m : M) : D → O1
  | .lst xs => .ok (.ref m.length) (m ++ [.lst xs])
  | _ => .no
def xatD (i : Nat) (f : Str) : Option (Nat × XV) → Option D
  | some (j, x) => if i = j then fget f x.fs else none
  | none => none
/-- a, *b = d -/
def starD (i j : Nat) (d : D) (env : Env) : Option Env := match d with
  | .tup (x :: xs) => if xs.length ≤ 1000 then some ((env.set i (some x)).set j (some (.lst xs))) else none
  | _ => none
def hMode : CM → M → O1 → O1
  | .pl => fun _ r => r
  | .gc => gcD
  | .fr => freshD
def xisD (i : Nat) (yes : List Str) : Option (Nat × XV) → Option D
  | some (j, x) => if i = j then some (.bl (decide (x.nm ∈ yes))) else none
  | none => none
/-- what must be seen of a receiver ahead of the arguments -/
def grd {α : Type} (b : Bool) (r : Rz α) : Rz α := match b with
  | true => r
  | false => .no
/-- the keys may be compared: whole numbers, or pairs of these -/
def keysOk (kds : List D) : Bool := (kds.all fun d => match d with | .int _ => true | _ => false) || kds.all fun d => match d with | .tup [.int _, .int _] => true | _ => false
/-- 0 .. n - 1 by their keys -/
def sortKeyD (kds : List D) : List D := ((List.range kds.length).mergeSort (PySem.W.dataLe false fun i => toP (kds.getD i .non))).map fun (i : Nat) => D.int (i : Int)
/-- the keys of 0 .. n - 1 -/
def keysM (rk : Env → M → O1) (env : Env) (i : Nat) (m : M) : Nat → Option (List D)
  | 0 => some []
  | n + 1 => (keysM rk env i m n).bind fun ds => match rk (env.set i (some (.int (n : Int)))) m with
    | .ok d _ => some (ds ++ [d])
    | _ => none
def sortKM (rk : Env → M → O1) (env : Env) (i : Nat) (m : M) : D → Option (List D)
  | .int n => if decide (0 ≤ n) && decide (n ≤ 1000) then (keysM rk env i m n.toNat).bind fun ds => if keysOk ds then some (sortKeyD ds) else none else none
  | _ => none
/-- the keys of a list's things, whole numbers; they leave the memory as it is -/
def minKs (rk : Env → M → O1) (env : Env) (i : Nat) (m : M) : List D → Option (List Int)
  | [] => some []
  | d :: ds => (match rk (env.set i (some d)) m with
    | .ok (.int n) m' => if m' = m then some n else none
    | _ => none).bind fun n => (minKs rk env i m ds).bind fun ns => some (n :: ns)
/-- the first of the least -/
def minBest (ns : List Int) : Nat := argBest (fun a b => decide (ns.getD a 0 < ns.getD b 0)) (ns.length - 1)
def isTupD : D → Bool
  | .tup _ => true
  | _ => false
def minKM (rk : Env → M → O1) (env : Env) (i : Nat) (m : M) : D → Option D
  | .lst ds => if decide (0 < ds.length) && ds.all isTupD then (minKs rk env i m ds).bind fun ns => ds[minBest ns]? else none
  | _ => none
/-- [e for t in ds for t1 in range(b) if c] -/
def comp2L (t t1 : Tg) (vs1 : List Nat) (env : Env) (tb tc te : Env → M → O1) : List D → M → Option (List D × M)
  | [], m => some ([], m)
  | d :: ds, m => (bindTg m t d env).bind fun e => (calmR (tb e m)).bind fun p => (rng1I p.1).bind fun js => (compLI t1 (wipeE e vs1) tc te js p.2).bind fun q => (comp2L t t1 vs1 env tb tc te ds q.2).bind fun r => some (q.1 ++ r.1, r.2)
def isRef : D → Bool
  | .ref _ => true
  | _ => false
def isLs : D → Bool
  | .ref _ => true
  | .lst _ => true
  | _ => false
def isStr : D → Bool
  | .str _ => true
  | _ => false
def isDic : D → Bool
  | .dic _ => true
  | _ => false
section
variable (F : Fn) (G : List D) (cx : Option (Nat × XV))
mutual
def evE : E → Env → M → O1
  | .nop, _, _ => .no
  | .var i, env, m => match env[i]? with
    | some (some d) => .ok d m
    | _ => .no
  | .con d, _, m => .ok d m
  | .glob k, _, m => .of G[k]? m
  | .bin op a b, env, m => (evE a env m).bind fun x m => (evE b env m).bind fun y m => .of (bopD m op x y) m
  | .neg a, env, m => (evE a env m).bind fun x m => .of (negD x) m
  | .cmp op a b, env, m => (evE a env m).bind fun x m => (evE b env m).bind fun y m => .of ((cmpM m op x y).map .bl) m
  | .chain o p a b c, env, m => (evE a env m).bind fun x m => (evE b env m).bind fun y m => match cmpM m o x y with
      | some true => (evE c env m).bind fun z m => .of ((cmpM m p y z).map .bl) m
      | some false => .ok (.bl false) m
      | none => .no
  | .isN a, env, m => (evE a env m).bind fun x m => .ok (.bl (decide (x = .non))) m
  | .notN a, env, m => (evE a env m).bind fun x m => .ok (.bl (!decide (x = .non))) m
  | .and_ a b, env, m => (evE a env m).bind fun x m => match x with
    | .bl true => evE b env m
    | .bl false => .ok (.bl false) m
    | _ => .no
  | .and1 a, env, m => evE a env m
  | .or_ a b, env, m => (evE a env m).bind fun x m => match x with
    | .bl true => .ok (.bl true) m
    | .bl false => evE b env m
    | _ => .no
  | .or1 a, env, m => evE a env m
  | .not_ a, env, m => (evE a env m).bind fun x m => .of (notD x) m
  | .ife c a b, env, m => (evE c env m).bind fun x m => match x with
    | .bl true => evE a env m
    | .bl false => evE b env m
    | _ => .no
  | .call f as, env, m => (evA as env m).bind fun ds m => F f ds m
  | .callG f as, env, m => (evA as env m).bind fun ds m => gcD m (F f ds m)
  | .callF f as, env, m => (evA as env m).bind fun ds m => freshD m (F f ds m)
  | .callD md f as dfs, env, m => (evA as env m).bind fun ds m => hMode md m (F f (ds ++ dfs) m)
  | .meth a c nm f as, env, m => (evE a env m).bind fun o m => grd (methM m c nm o) ((evA as env m).bind fun ds m => F f (o :: ds) m)
  | .methG a c nm f as, env, m => (evE a env m).bind fun o m => grd (methM m c nm o) ((evA as env m).bind fun ds m => gcD m (F f (o :: ds) m))
  | .mk c f as, env, m => (evA as env m).bind fun ds m => (F f (.obj m.length :: ds) (m ++ [.ins c []])).bind fun d m' => grd (decide (d = .non)) (.ok (.obj m.length) m')
  | .attr a c f, env, m => (evE a env m).bind fun o m => .of (attrM m c f o) m
  | .xat i f, _, m => .of (xatD i f cx) m
  | .xis i _ yes, _, m => .of (xisD i yes cx) m
  | .dnew, _, m => .ok (.dic m.length) (m ++ [.dct []])
  | .dget a b, env, m => (evE a env m).bind fun x m => grd (isDic x) ((evE b env m).bind fun y m => .of ((dlook m x y).map fun o => o.getD .non) m)
  | .dgetD a b c, env, m => (evE a env m).bind fun x m => grd (isDic x) ((evE b env m).bind fun y m => (evE c env m).bind fun z m => .of ((dlook m x y).map fun o => o.getD z) m)
  | .dcomp own t it k e, env, m => (evI it env m).bind fun ds m => if ds.length ≤ lim then
      (match dcL t (wipeE env (own.map (·.2))) m.length (fun env m => evE k env m) (fun env m => evE e env m) ds (m ++ [.dct []]) with
        | some m' => .ok (.dic m.length) m'
        | none => .no) else .no
  | .gin _ t ng a, env, m => (evE a env m).bind fun x m => .of (ginD t ng x) m
  | .gix _ t a, env, m => (evE a env m).bind fun x m => .of (gixD t x) m
  | .stp a c, env, m => (evE a env m).bind fun x m => (evE c env m).bind fun y m => .of (stpD m x y) m
  | .bi b as, env, m => (evA as env m).bind fun ds m => .of (biD m b ds) m
  | .isi a t, env, m => (evE a env m).bind fun x m => .of ((isiD x t).map .bl) m
  | .listRg a, env, m => (evE a env m).bind fun x m => .of (listRgD x) m
  | .minK a i k, env, m => (evE a env m).bind fun x m => .of (minKM (fun env m => evE k env m) env i m x) m
  | .sortK a i k, env, m => (evE a env m).bind fun x m => .of ((sortKM (fun env m => evE k env m) env i m x).map .lst) m
  | .ix a b, env, m => (evE a env m).bind fun x m => (evE b env m).bind fun y m => .of (ixM m x y) m
  | .sl a lo hi, env, m => (evE a env m).bind fun x m => (partO (fun env m => evE lo env m) (isNop lo) env m).bind fun l m => (partO (fun env m => evE hi env m) (isNop hi) env m).bind fun h m => .of (slD m x l h) m
  | .tup as, env, m => (evA as env m).bind fun ds m => .of (tupD ds) m
  | .lst as, env, m => (evA as env m).bind fun ds m => .of (lstD ds) m
  | .comp own t it e, env, m => (evI it env m).bind fun ds m => if ds.length ≤ lim then
      (match compL t (wipeE env (own.map (·.2))) (fun env m => evE e env m) ds m with
        | some q => .ok (.lst q.1) q.2
        | none => .no) else .no
  | .compIf own t it c e, env, m => (evI it env m).bind fun ds m => if ds.length ≤ lim then
      (match compLI t (wipeE env (own.map (·.2))) (fun env m => evE c env m) (fun env m => evE e env m) ds m with
        | some q => .ok (.lst q.1) q.2
        | none => .no) else .no
  | .comp2 own t it vs1 t1 b c e, env, m => (evI it env m).bind fun ds m => if ds.length ≤ lim then
      (match comp2L t t1 vs1 (wipeE env (own.map (·.2))) (fun env m => evE b env m) (fun env m => evE c env m) (fun env m => evE e env m) ds m with
        | some q => if q.1.length ≤ lim then .ok (.lst q.1) q.2 else .no
        | none => .no) else .no
  | .compR own t v e, env, m => (evE v env m).bind fun x m => match lstAt m x with
    | some p => if p.2.length ≤ lim then endL p.1 p.2 (compL t (wipeE env (own.map (·.2))) (gdE p.1 p.2 fun env m => evE e env m) p.2 m) else .no
    | none => .no
  | .compIR own t v c e, env, m => (evE v env m).bind fun x m => match lstAt m x with
    | some p => if p.2.length ≤ lim then endL p.1 p.2 (compLI t (wipeE env (own.map (·.2))) (gdE p.1 p.2 fun env m => evE c env m) (fun env m => evE e env m) p.2 m) else .no
    | none => .no
  | .box a, env, m => (evE a env m).bind fun x m => boxM m x
  | .pop a, env, m => (evE a env m).bind fun x m => popM m x
  | .popAt a b, env, m => (evE a env m).bind fun x m => grd (isRef x) ((evE b env m).bind fun y m => popAtM m x y)
  | .append a b, env, m => (evE a env m).bind fun x m => grd (isRef x) ((evE b env m).bind fun y m => appendM m y x)
  | .rev a, env, m => (evE a env m).bind fun x m => .of (revD m x) m
  | .join a b, env, m => (evE a env m).bind fun x m => grd (isStr x) ((evE b env m).bind fun y m => .of (joinD m x y) m)
  | .fmt a, env, m => (evE a env m).bind fun x m => .of (txtD x) m
  | .dead, _, _ => .no
  | .isB a b, env, m => (evE a env m).bind fun x m => .of (isBD b x) m
  | .index a b, env, m => (evE a env m).bind fun x m => grd (isLs x) ((evE b env m).bind fun y m => .of (indexD m x y) m)
  | .fstr as, env, m => match calmR (evA as env m) with
    | some p => .of ((gluD Str.empty p.1).map .str) p.2
    | none => .no
def evA : Es → Env → M → OA
  | .nil, _, m => .ok [] m
  | .cons e es, env, m => (evE e env m).bind fun x m => (evA es env m).bind fun xs m => .ok (x :: xs) m
def evI : It → Env → M → OA
  | .seq e, env, m => (evE e env m).bind fun x m => .of (seqI x) m
  | .rng1 e, env, m => (evE e env m).bind fun x m => .of (rng1I x) m
  | .rng2 a b, env, m => (evE a env m).bind fun x m => (evE b env m).bind fun y m => .of (rng2I x y) m
  | .zip a b, env, m => (evE a env m).bind fun x m => (evE b env m).bind fun y m => .of (zipD x y) m
  | .zipS a b, env, m => (evE a env m).bind fun x m => (evE b env m).bind fun y m => .of (zipSD x y) m
  | .enum e, env, m => (evE e env m).bind fun x m => .of (enumI x) m
  | .dvals e, env, m => (evE e env m).bind fun x m => .of (dvalsM m x) m
  | .txt e, env, m => (evE e env m).bind fun x m => .of (txtI x) m
end
end
inductive Fl where
  | nx | rt (d : D) | bk | ct | xc (x : XV)
abbrev R := Option (Fl × Env × M)
/-- a value, then a statement's end; an exception leaves the statement -/
def Rz.st {α : Type} (r : Rz α) (env : Env) (f : α → M → R) : R := match r with
  | .no => none
  | .ok a m => f a m
  | .ex x m => some (.xc x, env, m)
def forL (t : Tg) (tb : Env → M → R) : List D → Env → M → R
  | [], env, m => some (.nx, env, m)
  | d :: ds, env, m => (bindTg m t d env).bind fun e => (tb e m).bind fun r => match r.1 with
    | .nx => forL t tb ds r.2.1 r.2.2
    | .ct => forL t tb ds r.2.1 r.2.2
    | .bk => some (.nx, r.2.1, r.2.2)
    | .rt d => some (.rt d, r.2.1, r.2.2)
    | .xc x => some (.xc x, r.2.1, r.2.2)
def whileL (tc : Env → M → O1) (tb : Env → M → R) : Nat → Env → M → R
  | 0, _, _ => none
  | n + 1, env, m => (tc env m).st env fun c m => match c with
    | .bl true => (tb env m).bind fun r => match r.1 with
      | .nx => whileL tc tb n r.2.1 r.2.2
      | .ct => whileL tc tb n r.2.1 r.2.2
      | .bk => some (.nx, r.2.1, r.2.2)
      | .rt d => some (.rt d, r.2.1, r.2.2)
      | .xc x => some (.xc x, r.2.1, r.2.2)
    | .bl false => some (.nx, env, m)
    | _ => none
def gdR (l : Nat) (xs : List D) (tb : Env → M → R) (env : Env) (m : M) : R := if m[l]? = some (MO.lst xs) then tb env m else none
def endF (l : Nat) (xs : List D) (r : R) : R := r.bind fun r => match r.1 with
  | .nx => if r.2.2[l]? = some (MO.lst xs) then some r else none
  | _ => some r
/-- how many turns a while may take -/
def turns : Nat := 1000000
/-- the exception of the class c made of these arguments: its fields, the newest first -/
def mkX (fs : List Str) (ds : List D) : List (Str × D) := (fs.zip ds).reverse
/-- the name of an except clause goes; an exception that leaves a suite is not served -/
def setO (env : Env) (i : Option Nat) : Env := match i with
  | some j => env.set j none
  | none => env
def outH (i : Option Nat) (r : R) : R := r.bind fun r => match r.1 with
  | .xc _ => none
  | fl => some (fl, setO r.2.1 i, r.2.2)
def okSl (env : Env) (i : Option Nat) : Bool := match i with
  | some j => decide (j < env.length)
  | none => true
def cxO (i : Option Nat) (x : XV) : Option (Nat × XV) := i.map fun j => (j, x)
section
variable (F : Fn) (G : List D) (Xf : Str → Option (List Str))
mutual
def evS : S → Option (Nat × XV) → Env → M → R
  | .asg t e, cx, env, m => (evE F G cx e env m).st env fun d m => (bindTg m t d env).map fun e => (.nx, e, m)
  | .setix o i e, cx, env, m => (evE F G cx e env m).st env fun v m => (evE F G cx o env m).st env fun x m => (evE F G cx i env m).st env fun y m => (setM m v x y).map fun m => (.nx, env, m)
  | .aug i op e, cx, env, m => match env[i]? with
    | some (some a) => (evE F G cx e env m).st env fun b m => (augD op a b).map fun d => (.nx, env.set i (some d), m)
    | _ => none
  | .ex e, cx, env, m => (evE F G cx e env m).st env fun _ m => some (.nx, env, m)
  | .ife c a b, cx, env, m => (evE F G cx c env m).st env fun x m => match x with
    | .bl true => evB a cx env m
    | .bl false => evB b cx env m
    | _ => none
  | .for_ t it b, cx, env, m => (evI F G cx it env m).st env fun ds m => forL t (fun env m => evB b cx env m) ds env m
  | .forR t v b, cx, env, m => (evE F G cx v env m).st env fun x m => match lstAt m x with
    | some p => endF p.1 p.2 (forL t (gdR p.1 p.2 fun env m => evB b cx env m) p.2 env m)
    | none => none
  | .while_ c b, cx, env, m => whileL (fun env m => evE F G cx c env m) (fun env m => evB b cx env m) turns env m
  | .ret e, cx, env, m => (evE F G cx e env m).st env fun d m => some (.rt d, env, m)
  | .brk, _, env, m => some (.bk, env, m)
  | .cont, _, env, m => some (.ct, env, m)
  | .dead, _, _, _ => none
  | .pass, _, env, m => some (.nx, env, m)
  | .retN, _, env, m => some (.rt .non, env, m)
  | .setat o c f e, cx, env, m => (evE F G cx e env m).st env fun v m => (evE F G cx o env m).st env fun x m => (setatM m c f v x).map fun m => (.nx, env, m)
  | .augat o c f op e, cx, env, m => (evE F G cx o env m).st env fun x m => match attrM m c f x with
    | some a => (evE F G cx e env m).st env fun b m => (augD op a b).bind fun d => (setatM m c f d x).map fun m => (.nx, env, m)
    | none => none
  | .star i j e, cx, env, m => (evE F G cx e env m).st env fun d m => (starD i j d env).map fun e => (.nx, e, m)
  | .raise_ c as, cx, env, m => (evA F G cx as env m).st env fun ds m => match Xf c with
    | some fs => if fs.length = ds.length then some (.xc ⟨c, mkX fs ds⟩, env, m) else none
    | none => none
  | .try_ b hs els, cx, env, m => (evB b cx env m).bind fun r => match r.1 with
    | .nx => evB els cx r.2.1 r.2.2
    | .xc x => evH hs x cx r.2.1 r.2.2
    | _ => some r
def evB : Ss → Option (Nat × XV) → Env → M → R
  | .nil, _, env, m => some (.nx, env, m)
  | .cons s ss, cx, env, m => (evS s cx env m).bind fun r => match r.1 with
    | .nx => evB ss cx r.2.1 r.2.2
    | _ => some r
def evH : Hs → XV → Option (Nat × XV) → Env → M → R
  | .nil, x, _, env, m => some (.xc x, env, m)
  | .cons _ yes no i b hs, x, cx, env, m => if x.nm ∈ yes then (if okSl env i then outH i (evB b (cxO i x) (setO env i) m) else none) else if x.nm ∈ no then evH hs x cx env m else none
end
end
structure FnD where
  nm : Str
  ps : List Str
  ns : List Str
  body : Ss
  df : List D := []
  cl : Str := ""
  own : Str := nm
  lm : Bool := false
def startE (n : Nat) (ds : List D) : Env := ds.map some ++ List.replicate (n - ds.length) none
def endR (r : R) : O1 := match r with
  | some (.rt d, _, m) => .ok d m
  | some (.nx, _, m) => .ok .non m
  | some (.xc x, _, m) => .ex x m
  | _ => .no
def runBody (F : Fn) (G : List D) (Xf : Str → Option (List Str)) (fd : FnD) (ds : List D) (m : M) : O1 :=
  if ds.length = fd.ps.length then endR (evB F G Xf fd.body none (startE fd.ns.length ds) m) else .no
def run (T : List FnD) (G : List D) (Xf : Str → Option (List Str)) : Nat → Fn
  | 0, _, _, _ => .no
  | n + 1, f, ds, m => match T[f]? with
    | some fd => runBody (run T G Xf n) G Xf fd ds m
    | none => .no
end Pv

namespace Pv
open PySem L2

/-! ## how values and heaps stand for data -/
/-- a list that nobody changes: the script -/
def FrzL (K : PySem.W.Frag) (H : Hp) (a : Addr) (xs : List V) : Prop := (∃ o, H a = some (.frz o (.lst xs))) ∨
  ∃ (o : Obj) (its : Array Value) (n : Nat), K.lookup a = some o ∧ o.cls = .type "list" ∧ o.dict = none ∧ o.data = .seq its n ∧ its.size ≤ sizeLine ∧ Vals xs its.toList
mutual
inductive RepV (K : PySem.W.Frag) (Z : Addr → Prop) (ph : List Addr) (H : Hp) : V → D → Prop
  | non : RepV K Z ph H .non .non
  | bl (b : Bool) : RepV K Z ph H (.bl b) (.bl b)
  | int (i : Int) : RepV K Z ph H (.int i) (.int i)
  | str (x : Str) : RepV K Z ph H (.str x) (.str x)
  | tup {a : Addr} {vs : List V} {ds : List D} (h : SqT K H a vs) (r : RepVs K Z ph H vs ds) : RepV K Z ph H (.ref a) (.tup ds)
  | lst {a : Addr} {vs : List V} {ds : List D} (h : H a = some (.lst vs)) (n : a ∉ ph) (z : ¬ Z a) (r : RepVs K Z ph H vs ds) : RepV K Z ph H (.ref a) (.lst ds)
  | frz {a : Addr} {vs : List V} {ds : List D} (h : FrzL K H a vs) (r : RepVs K Z ph H vs ds) : RepV K Z ph H (.ref a) (.frz ds)
  | ref {a : Addr} {l : Nat} (h : ph[l]? = some a) (k : ∃ vs, H a = some (.lst vs)) : RepV K Z ph H (.ref a) (.ref l)
  | obj {a : Addr} {l : Nat} (h : ph[l]? = some a) (k : ∃ C dx fs, H a = some (.ins C dx fs)) : RepV K Z ph H (.ref a) (.obj l)
  | dic {a : Addr} {l : Nat} (h : ph[l]? = some a) (k : ∃ kvs, H a = some (.dK kvs)) : RepV K Z ph H (.ref a) (.dic l)
  | gl {a : Addr} {nm : Str} (h : PySem.W.nsIn K mainGlobals nm = some (some (.ref a))) : RepV K Z ph H (.ref a) (.gl nm)
inductive RepVs (K : PySem.W.Frag) (Z : Addr → Prop) (ph : List Addr) (H : Hp) : List V → List D → Prop
  | nil : RepVs K Z ph H [] []
  | cons {v : V} {d : D} {vs : List V} {ds : List D} (h : RepV K Z ph H v d) (r : RepVs K Z ph H vs ds) : RepVs K Z ph H (v :: vs) (d :: ds)
end

/-- the attributes of an instance, by their names -/
structure RepFs (K : PySem.W.Frag) (Z : Addr → Prop) (ph : List Addr) (H : Hp) (fvs : List (Str × V)) (fs : List (Str × D)) : Prop where
  nm : fvs.map (·.1) = fs.map (·.1)
  vs : RepVs K Z ph H (fvs.map (·.2)) (fs.map (·.2))
/-- a dict's keys -/
def keyR : Key → D → Prop
  | .inl i, .int j => i = j
  | .inr x, .str y => x = y
  | _, _ => False
inductive KeysR : List Key → List D → Prop
  | nil : KeysR [] []
  | cons {k : Key} {d : D} {ks : List Key} {ds : List D} (h : keyR k d) (r : KeysR ks ds) : KeysR (k :: ks) (d :: ds)
structure RepKs (K : PySem.W.Frag) (Z : Addr → Prop) (ph : List Addr) (H : Hp) (vvs : List (Key × V)) (kvs : List (D × D)) : Prop where
  ks : KeysR (vvs.map (·.1)) (kvs.map (·.1))
  vs : RepVs K Z ph H (vvs.map (·.2)) (kvs.map (·.2))
/-- no table of a code object -/
def NT (o : HO) : Prop := ∀ ps, o ≠ .tbl ps
theorem NT.lst {xs : List V} : NT (.lst xs) := fun _ e => by cases e
theorem NT.ins {C dx : Addr} {fs : List (Str × V)} : NT (.ins C dx fs) := fun _ e => by cases e
/-- a thing that is never changed -/
structure Fix (o : HO) : Prop where
  t : NT o
  l : ∀ vs, o ≠ .lst vs
  i : ∀ C dx fs, o ≠ .ins C dx fs
  d : ∀ kvs, o ≠ .dK kvs
theorem Fix.tup {xs : List V} : Fix (.tup xs) := ⟨fun _ e => (by cases e), fun _ e => (by cases e), fun _ _ _ e => (by cases e), fun _ e => (by cases e)⟩
theorem Fix.xd {fs : List (Str × V)} : Fix (.xd fs) := ⟨fun _ e => (by cases e), fun _ e => (by cases e), fun _ _ _ e => (by cases e), fun _ e => (by cases e)⟩
theorem Fix.own {x : Addr} : Fix (.own x) := ⟨fun _ e => (by cases e), fun _ e => (by cases e), fun _ _ _ e => (by cases e), fun _ e => (by cases e)⟩
theorem Fix.frz {o : Obj} {u : HO} : Fix (.frz o u) := ⟨fun _ e => (by cases e), fun _ e => (by cases e), fun _ _ _ e => (by cases e), fun _ e => (by cases e)⟩
/-- the code objects that make lambdas, their tables, the lambdas' names -/
class TabT where
  cs : List (Addr × Addr × Str)
def TabT.T [TabT] : List (Addr × Str) := TabT.cs.map fun p => (p.2.1, p.2.2)
/-- what a run leaves of what stood -/
structure Sx [TabT] (ph : List Addr) (H : Hp) (ph' : List Addr) (H' : Hp) : Prop where
  ext : ∃ more, ph' = ph ++ more
  new : ∀ a ∈ ph', a ∈ ph ∨ H a = none
  fr : ∀ a o, H a = some o → a ∉ ph → NT o → H' a = some o
  ft : ∀ a o, H a = some o → Fix o → H' a = some o
  old : ∀ a o, H a = some o → ∃ o', H' a = some o'
  kl : ∀ a vs, H a = some (.lst vs) → ∃ vs', H' a = some (.lst vs')
  ki : ∀ a C dx fs, H a = some (.ins C dx fs) → ∃ fs', H' a = some (.ins C dx fs')
  kd : ∀ a kvs, H a = some (.dK kvs) → ∃ kvs', H' a = some (.dK kvs')
  tb : LamX.Tabs TabT.T H → LamX.Tabs TabT.T H'
structure Wd [TabT] (K : PySem.W.Frag) (Z : Addr → Prop) (ph : List Addr) (m : M) (H : Hp) : Prop where
  len : ph.length = m.length
  nd : ph.Nodup
  obj : ∀ (l : Nat) (xs : List D), m[l]? = some (MO.lst xs) → ∃ a vs, ph[l]? = some a ∧ H a = some (.lst vs) ∧ RepVs K Z ph H vs xs
  zin : ∀ a, Z a → ∃ o, H a = some o
  obi : ∀ (l : Nat) (nm : Str) (fs : List (Str × D)), m[l]? = some (MO.ins nm fs) → ∃ a C dx fvs, ph[l]? = some a ∧ PySem.W.nsIn K mainGlobals nm = some (some (.ref C)) ∧ H a = some (.ins C dx fvs) ∧ RepFs K Z ph H fvs fs
  obd : ∀ (l : Nat) (kvs : List (D × D)), m[l]? = some (MO.dct kvs) → ∃ a vvs, ph[l]? = some a ∧ H a = some (.dK vvs) ∧ RepKs K Z ph H vvs kvs
  tb : LamX.Tabs TabT.T H

section
variable [TabT]
variable {K : PySem.W.Frag} {Z Z' : Addr → Prop} {ph ph' ph1 ph2 : List Addr} {H H' H1 H2 : Hp} {m m' : M} {v : V} {d : D} {vs : List V} {ds : List D} {σ : L2.St} {env : Env}

theorem Sx.refl : Sx ph H ph H := ⟨⟨[], by simp⟩, fun _ h => .inl h, fun _ _ h _ _ => h, fun _ _ h _ => h, fun _ o h => ⟨o, h⟩, fun _ v h => ⟨v, h⟩, fun _ _ _ v h => ⟨v, h⟩, fun _ v h => ⟨v, h⟩, fun t => t⟩
theorem Sx.trans (s : Sx ph H ph1 H1) (t : Sx ph1 H1 ph2 H2) : Sx ph H ph2 H2 := by
  refine ⟨?_, fun a ha => ?_, fun a o h n nt => ?_, fun a o h n => t.ft a o (s.ft a o h n) n, fun a o h => ?_, fun a vs h => ?_, fun a C dx fs h => ?_, fun a kvs h => ?_, fun h => t.tb (s.tb h)⟩
  · obtain ⟨x, e1⟩ := s.ext
    obtain ⟨y, e2⟩ := t.ext
    exact ⟨x ++ y, by rw [e2, e1, List.append_assoc]⟩
  · rcases t.new a ha with h | h
    · exact s.new a h
    · right
      cases q : H a with
      | none => rfl
      | some o =>
        obtain ⟨o', e⟩ := s.old a o q
        rw [e] at h; cases h
  · refine t.fr a o (s.fr a o h n nt) (fun h1 => ?_) nt
    rcases s.new a h1 with z | z
    · exact n z
    · rw [z] at h; cases h
  · obtain ⟨o', e⟩ := s.old a o h
    exact t.old a o' e
  · obtain ⟨o', e⟩ := s.kl a vs h
    exact t.kl a o' e
  · obtain ⟨o', e⟩ := s.ki a C dx fs h
    exact t.ki a C dx o' e
  · obtain ⟨o', e⟩ := s.kd a kvs h
    exact t.kd a o' e
theorem Sx.upd {p : Addr} {o : HO} (h : H p = none) : Sx ph H ph (upd H p o) := by
  have k : ∀ a u, H a = some u → L2.upd H p o a = some u := fun a u e => by rw [upd_ne (ne_of_none e h)]; exact e
  exact ⟨⟨[], by simp⟩, fun _ h => .inl h, fun a u e _ _ => k a u e, fun a u e _ => k a u e, fun a u e => ⟨u, k a u e⟩, fun a u e => ⟨u, k a _ e⟩, fun a _ _ u e => ⟨u, k a _ e⟩, fun a u e => ⟨u, k a _ e⟩, fun t => t.ext k⟩
theorem Sx.free (s : Sx ph H ph' H') {p : Addr} (h : H' p = none) : H p = none := by
  cases q : H p with
  | none => rfl
  | some o =>
    obtain ⟨o', e⟩ := s.old p o q
    rw [e] at h; cases h
theorem Sx.mem (s : Sx ph H ph' H') {a : Addr} (h : a ∈ ph) : a ∈ ph' := by
  obtain ⟨x, e⟩ := s.ext
  rw [e]; exact List.mem_append_left _ h
theorem Sx.sqT {a : Addr} (s : Sx ph H ph' H') (h : SqT K H a vs) : SqT K H' a vs := by
  rcases h with (h | ⟨o, h⟩) | h
  · exact .inl (.inl (s.ft a _ h .tup))
  · exact .inl (.inr ⟨o, s.ft a _ h .frz⟩)
  · exact .inr h
theorem FrzL.sqL {a : Addr} (h : FrzL K H a vs) : SqL K H a vs := by
  rcases h with ⟨o, h⟩ | h
  · exact .inl (.inr ⟨o, h⟩)
  · exact .inr h
theorem Sx.frzL {a : Addr} (s : Sx ph H ph' H') (h : FrzL K H a vs) : FrzL K H' a vs := by
  rcases h with ⟨o, h⟩ | h
  · exact .inl ⟨o, s.ft a _ h .frz⟩
  · exact .inr h
theorem Sx.notin {a : Addr} {o : HO} (s : Sx ph H ph' H') (h : H a = some o) (n : a ∉ ph) : a ∉ ph' := fun hn => by
  rcases s.new a hn with z | z
  · exact n z
  · rw [h] at z; cases z
theorem Sx.at_ (s : Sx ph H ph' H') {l : Nat} {a : Addr} (h : ph[l]? = some a) : ph'[l]? = some a := by
  obtain ⟨x, e⟩ := s.ext
  rw [e, List.getElem?_append_left (List.getElem?_eq_some_iff.mp h).1]
  exact h
mutual
theorem RepV.mono (s : Sx ph H ph' H') : ∀ {v d}, RepV K Z ph H v d → RepV K Z ph' H' v d
  | _, _, .non => .non
  | _, _, .bl b => .bl b
  | _, _, .int i => .int i
  | _, _, .str x => .str x
  | _, _, .tup h r => .tup (s.sqT h) (RepVs.mono s r)
  | _, _, .lst h n z r => .lst (s.fr _ _ h n .lst) (s.notin h n) z (RepVs.mono s r)
  | _, _, .frz h r => .frz (s.frzL h) (RepVs.mono s r)
  | _, _, .ref h k => .ref (s.at_ h) (let ⟨vs, e⟩ := k; s.kl _ vs e)
  | _, _, .obj h k => .obj (s.at_ h) (let ⟨C, dx, fs, e⟩ := k; let ⟨fs', e'⟩ := s.ki _ C dx fs e; ⟨C, dx, fs', e'⟩)
  | _, _, .dic h k => .dic (s.at_ h) (let ⟨vs, e⟩ := k; s.kd _ vs e)
  | _, _, .gl h => .gl h
theorem RepVs.mono (s : Sx ph H ph' H') : ∀ {vs ds}, RepVs K Z ph H vs ds → RepVs K Z ph' H' vs ds
  | _, _, .nil => .nil
  | _, _, .cons h r => .cons (RepV.mono s h) (RepVs.mono s r)
end
/-- a place more that nobody may hold, one fewer -/
def Zp (Z : Addr → Prop) (p : Addr) : Addr → Prop := fun a => a = p ∨ Z a
mutual
theorem RepV.zp {p : Addr} (hp : H p = none) : ∀ {v d}, RepV K Z ph H v d → RepV K (Zp Z p) ph H v d
  | _, _, .non => .non
  | _, _, .bl b => .bl b
  | _, _, .int i => .int i
  | _, _, .str x => .str x
  | _, _, .tup h r => .tup h (RepVs.zp hp r)
  | _, _, .lst h n z r => .lst h n (fun q => q.elim (ne_of_none h hp) z) (RepVs.zp hp r)
  | _, _, .frz h r => .frz h (RepVs.zp hp r)
  | _, _, .ref h k => .ref h k
  | _, _, .obj h k => .obj h k
  | _, _, .dic h k => .dic h k
  | _, _, .gl h => .gl h
theorem RepVs.zp {p : Addr} (hp : H p = none) : ∀ {vs ds}, RepVs K Z ph H vs ds → RepVs K (Zp Z p) ph H vs ds
  | _, _, .nil => .nil
  | _, _, .cons h r => .cons (RepV.zp hp h) (RepVs.zp hp r)
end
mutual
theorem RepV.unz {p : Addr} : ∀ {v d}, RepV K (Zp Z p) ph H v d → RepV K Z ph H v d
  | _, _, .non => .non
  | _, _, .bl b => .bl b
  | _, _, .int i => .int i
  | _, _, .str x => .str x
  | _, _, .tup h r => .tup h (RepVs.unz r)
  | _, _, .lst h n z r => .lst h n (fun q => z (.inr q)) (RepVs.unz r)
  | _, _, .frz h r => .frz h (RepVs.unz r)
  | _, _, .ref h k => .ref h k
  | _, _, .obj h k => .obj h k
  | _, _, .dic h k => .dic h k
  | _, _, .gl h => .gl h
theorem RepVs.unz {p : Addr} : ∀ {vs ds}, RepVs K (Zp Z p) ph H vs ds → RepVs K Z ph H vs ds
  | _, _, .nil => .nil
  | _, _, .cons h r => .cons (RepV.unz h) (RepVs.unz r)
end
mutual
theorem RepV.box {p : Addr} : ∀ {v d}, RepV K (Zp Z p) ph H v d → RepV K Z (ph ++ [p]) H v d
  | _, _, .non => .non
  | _, _, .bl b => .bl b
  | _, _, .int i => .int i
  | _, _, .str x => .str x
  | _, _, .tup h r => .tup h (RepVs.box r)
  | _, _, .lst h n z r => .lst h (fun q => (List.mem_append.mp q).elim n fun q => z (.inl (by simpa using q))) (fun q => z (.inr q)) (RepVs.box r)
  | _, _, .frz h r => .frz h (RepVs.box r)
  | _, _, .ref h k => .ref (by rw [List.getElem?_append_left (List.getElem?_eq_some_iff.mp h).1]; exact h) k
  | _, _, .obj h k => .obj (by rw [List.getElem?_append_left (List.getElem?_eq_some_iff.mp h).1]; exact h) k
  | _, _, .dic h k => .dic (by rw [List.getElem?_append_left (List.getElem?_eq_some_iff.mp h).1]; exact h) k
  | _, _, .gl h => .gl h
theorem RepVs.box {p : Addr} : ∀ {vs ds}, RepVs K (Zp Z p) ph H vs ds → RepVs K Z (ph ++ [p]) H vs ds
  | _, _, .nil => .nil
  | _, _, .cons h r => .cons (RepV.box h) (RepVs.box r)
end
mutual
theorem below_pure (n : Nat) : ∀ {d : D}, pure_ d = true → below n d = true
  | .non, _ => rfl
  | .bl _, _ => rfl
  | .int _, _ => rfl
  | .str _, _ => rfl
  | .tup xs, h => belows_pure n (ds := xs) (by simpa [pure_] using h)
  | .lst xs, h => belows_pure n (ds := xs) (by simpa [pure_] using h)
  | .frz _, h => by simp [pure_] at h
  | .ref _, h => by simp [pure_] at h
  | .obj _, h => by simp [pure_] at h
  | .dic _, h => by simp [pure_] at h
  | .gl _, h => by simp [pure_] at h
theorem belows_pure (n : Nat) : ∀ {ds : List D}, pures ds = true → belows n ds = true
  | [], _ => rfl
  | x :: r, h => by
    have h : pure_ x = true ∧ pures r = true := by simpa [pures] using h
    simp only [belows, below_pure n h.1, belows_pure n h.2, Bool.and_self]
end
mutual
theorem RepV.blw : ∀ {v d}, RepV K Z ph H v d → Pv.below ph.length d = true
  | _, _, .non => rfl
  | _, _, .bl b => rfl
  | _, _, .int i => rfl
  | _, _, .str x => rfl
  | _, _, .tup h r => RepVs.blw r
  | _, _, .lst h n z r => RepVs.blw r
  | _, _, .frz h r => RepVs.blw r
  | _, _, .ref h _ => decide_eq_true (List.getElem?_eq_some_iff.mp h).1
  | _, _, .obj h _ => decide_eq_true (List.getElem?_eq_some_iff.mp h).1
  | _, _, .dic h _ => decide_eq_true (List.getElem?_eq_some_iff.mp h).1
  | _, _, .gl h => rfl
theorem RepVs.blw : ∀ {vs ds}, RepVs K Z ph H vs ds → belows ph.length ds = true
  | _, _, .nil => rfl
  | _, _, .cons h r => by simp only [belows, RepV.blw h, RepVs.blw r, Bool.and_self]
end
mutual
theorem RepV.cut {more : List Addr} : ∀ {v d}, Pv.below ph.length d = true → RepV K Z (ph ++ more) H v d → RepV K Z ph H v d
  | _, _, _, .non => .non
  | _, _, _, .bl b => .bl b
  | _, _, _, .int i => .int i
  | _, _, _, .str x => .str x
  | _, _, q, .tup h r => .tup h (RepVs.cut q r)
  | _, _, q, .lst h n z r => .lst h (fun x => n (List.mem_append_left _ x)) z (RepVs.cut q r)
  | _, _, q, .frz h r => .frz h (RepVs.cut q r)
  | _, _, q, .ref h k => .ref (by rw [List.getElem?_append_left (of_decide_eq_true q)] at h; exact h) k
  | _, _, q, .obj h k => .obj (by rw [List.getElem?_append_left (of_decide_eq_true q)] at h; exact h) k
  | _, _, q, .dic h k => .dic (by rw [List.getElem?_append_left (of_decide_eq_true q)] at h; exact h) k
  | _, _, _, .gl h => .gl h
theorem RepVs.cut {more : List Addr} : ∀ {vs ds}, belows ph.length ds = true → RepVs K Z (ph ++ more) H vs ds → RepVs K Z ph H vs ds
  | _, _, _, .nil => .nil
  | _, _, q, .cons h r => by
    simp only [belows, Bool.and_eq_true] at q
    exact .cons (RepV.cut q.1 h) (RepVs.cut q.2 r)
end

/-! ### lists of values -/
theorem RepVs.len (r : RepVs K Z ph H vs ds) : vs.length = ds.length := by
  induction ds generalizing vs with
  | nil => cases r; rfl
  | cons d ds ih => cases r with | cons h r => simp [ih r]
theorem RepVs.get (r : RepVs K Z ph H vs ds) {i : Nat} {d : D} (h : ds[i]? = some d) : ∃ v, vs[i]? = some v ∧ RepV K Z ph H v d := by
  induction ds generalizing vs i with
  | nil => simp at h
  | cons d0 ds ih =>
    cases r with
    | cons h0 r =>
      cases i with
      | zero => simp at h; subst h; exact ⟨_, rfl, h0⟩
      | succ i => simp at h; simpa using ih r h
theorem RepVs.get' (r : RepVs K Z ph H vs ds) {i : Nat} {v : V} (h : vs[i]? = some v) : ∃ d, ds[i]? = some d ∧ RepV K Z ph H v d := by
  induction ds generalizing vs i with
  | nil => cases r; simp at h
  | cons d0 ds ih =>
    cases r with
    | cons h0 r =>
      cases i with
      | zero => simp at h; subst h; exact ⟨_, rfl, h0⟩
      | succ i => simp at h; simpa using ih r h
theorem RepVs.append {ws : List V} {es : List D} (r : RepVs K Z ph H vs ds) (q : RepVs K Z ph H ws es) : RepVs K Z ph H (vs ++ ws) (ds ++ es) := by
  induction ds generalizing vs with
  | nil => cases r; exact q
  | cons d ds ih => cases r with | cons h r => exact .cons h (ih r)
theorem RepVs.take (r : RepVs K Z ph H vs ds) (n : Nat) : RepVs K Z ph H (vs.take n) (ds.take n) := by
  induction ds generalizing vs n with
  | nil => cases r; simp; exact .nil
  | cons d ds ih =>
    cases r with
    | cons h r =>
      cases n with
      | zero => exact .nil
      | succ n => exact .cons h (ih r n)
theorem RepVs.drop (r : RepVs K Z ph H vs ds) (n : Nat) : RepVs K Z ph H (vs.drop n) (ds.drop n) := by
  induction ds generalizing vs n with
  | nil => cases r; simp; exact .nil
  | cons d ds ih =>
    cases r with
    | cons h r =>
      cases n with
      | zero => exact .cons h r
      | succ n => exact ih r n
theorem RepVs.set (r : RepVs K Z ph H vs ds) (q : RepV K Z ph H v d) (n : Nat) : RepVs K Z ph H (vs.set n v) (ds.set n d) := by
  induction ds generalizing vs n with
  | nil => cases r; exact .nil
  | cons d ds ih =>
    cases r with
    | cons h r =>
      cases n with
      | zero => exact .cons q r
      | succ n => exact .cons h (ih r n)
theorem RepVs.erase (r : RepVs K Z ph H vs ds) (n : Nat) : RepVs K Z ph H (vs.eraseIdx n) (ds.eraseIdx n) := by
  induction ds generalizing vs n with
  | nil => cases r; exact .nil
  | cons d ds ih =>
    cases r with
    | cons h r =>
      cases n with
      | zero => exact r
      | succ n => exact .cons h (ih r n)
theorem RepVs.dropLast (r : RepVs K Z ph H vs ds) : RepVs K Z ph H vs.dropLast ds.dropLast := by
  have e := r.len
  rw [List.dropLast_eq_take, List.dropLast_eq_take, e]
  exact r.take _
theorem RepVs.rep (r : RepVs K Z ph H vs ds) (k : Nat) : RepVs K Z ph H (List.replicate k vs).flatten (List.replicate k ds).flatten := by
  induction k with
  | zero => exact .nil
  | succ k ih => rw [List.replicate_succ, List.replicate_succ, List.flatten_cons, List.flatten_cons]; exact r.append ih

theorem RepFs.mono {fvs : List (Str × V)} {fs : List (Str × D)} (r : RepFs K Z ph H fvs fs) (s : Sx ph H ph' H') : RepFs K Z ph' H' fvs fs := ⟨r.nm, r.vs.mono s⟩
theorem RepKs.mono {vvs : List (Key × V)} {kvs : List (D × D)} (r : RepKs K Z ph H vvs kvs) (s : Sx ph H ph' H') : RepKs K Z ph' H' vvs kvs := ⟨r.ks, r.vs.mono s⟩
/-! ### the mutable things -/
/-- the mutable things stay as they are -/
theorem Wd.mono (w : Wd K Z ph m H) (s : Sx ph H ph H') (hz : ∀ a o, a ∈ ph → H a = some o → H' a = some o) : Wd K Z ph m H' := by
  refine ⟨w.len, w.nd, fun l xs h => ?_, fun a h => ?_, fun l nm fs h => ?_, fun l kvs h => ?_, s.tb w.tb⟩
  · obtain ⟨a, vs, e1, e2, r⟩ := w.obj l xs h
    exact ⟨a, vs, e1, hz a _ (List.mem_of_getElem? e1) e2, r.mono s⟩
  · obtain ⟨o, e⟩ := w.zin a h
    exact s.old a o e
  · obtain ⟨a, C, dx, fvs, e1, e0, e2, r⟩ := w.obi l nm fs h
    exact ⟨a, C, dx, fvs, e1, e0, hz a _ (List.mem_of_getElem? e1) e2, r.mono s⟩
  · obtain ⟨a, vvs, e1, e2, r⟩ := w.obd l kvs h
    exact ⟨a, vvs, e1, hz a _ (List.mem_of_getElem? e1) e2, r.mono s⟩
/-- a new thing is laid -/
theorem Wd.new (w : Wd K Z ph m H) {p : Addr} {o : HO} (h : H p = none) : Wd K Z ph m (upd H p o) :=
  w.mono (Sx.upd h) fun a u _ e => by rw [upd_ne (ne_of_none e h)]; exact e
theorem Wd.at (w : Wd K Z ph m H) {l : Nat} {xs : List D} (h : m[l]? = some (MO.lst xs)) {a : Addr} (ha : ph[l]? = some a) : ∃ vs, H a = some (.lst vs) ∧ RepVs K Z ph H vs xs := by
  obtain ⟨b, vs, e1, e2, r⟩ := w.obj l xs h
  rw [ha] at e1; cases e1
  exact ⟨vs, e2, r⟩
theorem Wd.there (w : Wd K Z ph m H) {a : Addr} (h : a ∈ ph) : ∃ o, H a = some o := by
  obtain ⟨l, hl, e⟩ := List.getElem_of_mem h
  have hm : l < m.length := by rw [← w.len]; exact hl
  have ea : ph[l]? = some a := List.getElem?_eq_some_iff.mpr ⟨hl, e⟩
  cases q : m[l] with
  | lst xs =>
    obtain ⟨b, vs, e1, e2, _⟩ := w.obj l xs (by rw [List.getElem?_eq_getElem hm, q])
    rw [ea] at e1; cases e1; exact ⟨_, e2⟩
  | ins nm fs =>
    obtain ⟨b, C, dx, fvs, e1, e0, e2, _⟩ := w.obi l nm fs (by rw [List.getElem?_eq_getElem hm, q])
    rw [ea] at e1; cases e1; exact ⟨_, e2⟩
  | dct kvs =>
    obtain ⟨b, vvs, e1, e2, _⟩ := w.obd l kvs (by rw [List.getElem?_eq_getElem hm, q])
    rw [ea] at e1; cases e1; exact ⟨_, e2⟩
theorem Wd.newZ {p : Addr} {o : HO} (w : Wd K Z ph m H) (h : H p = none) : Wd K (Zp Z p) ph m (L2.upd H p o) := by
  have s : Sx ph H ph (L2.upd H p o) := Sx.upd h
  have w' := w.new (o := o) h
  refine ⟨w'.len, w'.nd, fun l xs e => ?_, fun a ha => ?_, fun l nm fs e => ?_, fun l kvs e => ?_, w'.tb⟩
  · obtain ⟨a, us, e1, e2, r⟩ := w.obj l xs e
    exact ⟨a, us, e1, by rw [upd_ne (ne_of_none e2 h)]; exact e2, (r.zp h).mono s⟩
  · rcases ha with rfl | ha
    · exact ⟨_, upd_same⟩
    · exact w'.zin a ha
  · obtain ⟨a, C, dx, fvs, e1, e0, e2, r⟩ := w.obi l nm fs e
    exact ⟨a, C, dx, fvs, e1, e0, by rw [upd_ne (ne_of_none e2 h)]; exact e2, ⟨r.nm, (r.vs.zp h).mono s⟩⟩
  · obtain ⟨a, vvs, e1, e2, r⟩ := w.obd l kvs e
    exact ⟨a, vvs, e1, by rw [upd_ne (ne_of_none e2 h)]; exact e2, ⟨r.ks, (r.vs.zp h).mono s⟩⟩
theorem Fix.codeO {c : Addr} {q : Str} : Fix (LamX.CodeO c q) := ⟨fun _ e => LamX.codeO_ne _ e, fun _ e => (by unfold LamX.CodeO at e; cases e), fun _ _ _ e => (by unfold LamX.CodeO at e; cases e), fun _ e => (by unfold LamX.CodeO at e; cases e)⟩
theorem tabS_upd {a P : Addr} {q : Str} {o0 o1 : HO} (hv : H a = some o0) (nt : ∀ ps, o0 ≠ .tbl ps) (nf : Fix o0 → False) (t : LamX.TabS H P q) : LamX.TabS (L2.upd H a o1) P q := by
  obtain ⟨ps, h1, h2, h3⟩ := t
  have hne : P ≠ a := fun e => nt ps (by rw [e, hv] at h1; exact Option.some.inj h1)
  refine ⟨ps, by rw [upd_ne hne]; exact h1, h2, fun pos cv hc => ?_⟩
  obtain ⟨c, e1, e2⟩ := h3 pos cv hc
  have hnc : c ≠ a := fun e => nf (by rw [e, hv] at e2; rw [Option.some.inj e2]; exact .codeO)
  exact ⟨c, e1, by rw [upd_ne hnc]; exact e2⟩
/-- a thing that can be changed is changed, its sort stays -/
theorem Sx.writeG {a : Addr} {o0 o1 : HO} (hm : a ∈ ph) (hv : H a = some o0) (nt : ∀ ps, o0 ≠ .tbl ps) (nf : Fix o0 → False) (hl : ∀ vs, o0 = .lst vs → ∃ vs', o1 = .lst vs') (hi : ∀ C dx fs, o0 = .ins C dx fs → ∃ fs', o1 = .ins C dx fs') (hd : ∀ kvs, o0 = .dK kvs → ∃ kvs', o1 = .dK kvs') : Sx ph H ph (L2.upd H a o1) := by
  have at_ : ∀ {o}, H a = some o → o0 = o := fun h => by rw [hv] at h; exact Option.some.inj h
  refine ⟨⟨[], by simp⟩, fun _ h => .inl h, fun b o h n _ => ?_, fun b o h n => ?_, fun b o h => ?_, fun b o h => ?_, fun b C dx fs h => ?_, fun b o h => ?_, fun h => ?_⟩
  rotate_right
  · exact fun p hp => tabS_upd hv nt nf (h p hp)
  · rw [upd_ne (fun (e : b = a) => n (by rw [e]; exact hm))]; exact h
  · rw [upd_ne (fun (e : b = a) => by subst e; rw [at_ h] at nf; exact nf n)]; exact h
  · by_cases e : b = a
    · subst e; exact ⟨_, upd_same⟩
    · exact ⟨o, by rw [upd_ne e]; exact h⟩
  · by_cases e : b = a
    · subst e
      obtain ⟨vs', e'⟩ := hl o (at_ h)
      exact ⟨vs', by rw [upd_same, e']⟩
    · exact ⟨o, by rw [upd_ne e]; exact h⟩
  · by_cases e : b = a
    · subst e
      obtain ⟨vs', e'⟩ := hi C dx fs (at_ h)
      exact ⟨vs', by rw [upd_same, e']⟩
    · exact ⟨fs, by rw [upd_ne e]; exact h⟩
  · by_cases e : b = a
    · subst e
      obtain ⟨vs', e'⟩ := hd o (at_ h)
      exact ⟨vs', by rw [upd_same, e']⟩
    · exact ⟨o, by rw [upd_ne e]; exact h⟩
theorem ix_one {N : List Addr} (hN : N.Nodup) {i j : Nat} {x : Addr} (a : N[i]? = some x) (b : N[j]? = some x) : i = j := by
  obtain ⟨h1, e1⟩ := List.getElem?_eq_some_iff.mp a
  obtain ⟨h2, e2⟩ := List.getElem?_eq_some_iff.mp b
  exact (List.getElem_inj hN).mp (e1.trans e2.symm)
/-- how a thing that can be changed lies in the heap -/
def MoR (K : PySem.W.Frag) (Z : Addr → Prop) (ph : List Addr) (H : Hp) : MO → HO → Prop
  | .lst xs, o => ∃ vs, o = .lst vs ∧ RepVs K Z ph H vs xs
  | .ins nm fs, o => ∃ C dx fvs, PySem.W.nsIn K mainGlobals nm = some (some (.ref C)) ∧ o = .ins C dx fvs ∧ RepFs K Z ph H fvs fs
  | .dct kvs, o => ∃ vvs, o = .dK vvs ∧ RepKs K Z ph H vvs kvs
theorem Wd.mo (w : Wd K Z ph m H) {l : Nat} {u : MO} (h : m[l]? = some u) : ∃ a o, ph[l]? = some a ∧ H a = some o ∧ MoR K Z ph H u o := by
  cases u with
  | lst xs => obtain ⟨a, vs, e1, e2, r⟩ := w.obj l xs h; exact ⟨a, _, e1, e2, vs, rfl, r⟩
  | ins nm fs => obtain ⟨a, C, dx, fvs, e1, e0, e2, r⟩ := w.obi l nm fs h; exact ⟨a, _, e1, e2, C, dx, fvs, e0, rfl, r⟩
  | dct kvs => obtain ⟨a, vvs, e1, e2, r⟩ := w.obd l kvs h; exact ⟨a, _, e1, e2, vvs, rfl, r⟩
theorem Wd.of_mo (tb : LamX.Tabs TabT.T H) (hl : ph.length = m.length) (nd : ph.Nodup) (zi : ∀ a, Z a → ∃ o, H a = some o) (h : ∀ (l : Nat) (u : MO), m[l]? = some u → ∃ a o, ph[l]? = some a ∧ H a = some o ∧ MoR K Z ph H u o) : Wd K Z ph m H := by
  refine ⟨hl, nd, fun l xs e => ?_, zi, fun l nm fs e => ?_, fun l kvs e => ?_, tb⟩
  · obtain ⟨a, o, e1, e2, vs, rfl, r⟩ := h l _ e; exact ⟨a, vs, e1, e2, r⟩
  · obtain ⟨a, o, e1, e2, C, dx, fvs, e0, rfl, r⟩ := h l _ e; exact ⟨a, C, dx, fvs, e1, e0, e2, r⟩
  · obtain ⟨a, o, e1, e2, vvs, rfl, r⟩ := h l _ e; exact ⟨a, vvs, e1, e2, r⟩
theorem MoR.mono {u : MO} {o : HO} (r : MoR K Z ph H u o) (s : Sx ph H ph' H') : MoR K Z ph' H' u o := by
  cases u with
  | lst xs => obtain ⟨vs, e, r⟩ := r; exact ⟨vs, e, r.mono s⟩
  | ins nm fs => obtain ⟨C, dx, fvs, e0, e, r⟩ := r; exact ⟨C, dx, fvs, e0, e, r.mono s⟩
  | dct kvs => obtain ⟨vvs, e, r⟩ := r; exact ⟨vvs, e, r.mono s⟩
theorem Wd.writeG (w : Wd K Z ph m H) {l : Nat} {a : Addr} {o1 : HO} {u : MO} (ha : ph[l]? = some a) (s : Sx ph H ph (L2.upd H a o1)) (r : MoR K Z ph H u o1) : Wd K Z ph (m.set l u) (upd H a o1) := by
  have hl : l < ph.length := (List.getElem?_eq_some_iff.mp ha).1
  refine Wd.of_mo (s.tb w.tb) (by rw [List.length_set]; exact w.len) w.nd (fun b h => ?_) fun j v h => ?_
  · obtain ⟨o, q⟩ := w.zin b h
    exact s.old b o q
  · by_cases e : l = j
    · subst e
      rw [List.getElem?_set_self (by rw [← w.len]; exact hl)] at h
      cases h
      exact ⟨a, o1, ha, upd_same, r.mono s⟩
    · rw [List.getElem?_set_ne e] at h
      obtain ⟨b, o, e1, e2, r⟩ := w.mo h
      refine ⟨b, o, e1, ?_, r.mono s⟩
      rw [upd_ne]; exact e2
      rintro rfl
      exact e (ix_one w.nd ha e1)
/-- a mutable list is changed -/
theorem Sx.write {l : Nat} {a : Addr} {us vs : List V} (ha : ph[l]? = some a) (hv : H a = some (.lst vs)) : Sx ph H ph (L2.upd H a (.lst us)) :=
  Sx.writeG (List.mem_of_getElem? ha) hv (fun _ e => by cases e) (fun f => f.l _ rfl) (fun _ _ => ⟨us, rfl⟩) (fun _ _ _ e => by cases e) (fun _ e => by cases e)
theorem Wd.write (w : Wd K Z ph m H) {l : Nat} {a : Addr} {us vs : List V} {es : List D} (ha : ph[l]? = some a) (hv : H a = some (.lst vs)) (r : RepVs K Z ph H us es) : Wd K Z ph (m.set l (.lst es)) (upd H a (.lst us)) :=
  w.writeG ha (Sx.write ha hv) ⟨us, rfl, r⟩
/-- an instance's field is set -/
theorem Sx.writeI {l : Nat} {a C dx : Addr} {us vs : List (Str × V)} (ha : ph[l]? = some a) (hv : H a = some (.ins C dx vs)) : Sx ph H ph (L2.upd H a (.ins C dx us)) :=
  Sx.writeG (List.mem_of_getElem? ha) hv (fun _ e => by cases e) (fun f => f.i _ _ _ rfl) (fun _ e => by cases e) (fun _ _ _ e => by cases e; exact ⟨us, rfl⟩) (fun _ e => by cases e)
/-- a dict is changed -/
theorem Sx.writeD {l : Nat} {a : Addr} {us vs : List (Key × V)} (ha : ph[l]? = some a) (hv : H a = some (.dK vs)) : Sx ph H ph (L2.upd H a (.dK us)) :=
  Sx.writeG (List.mem_of_getElem? ha) hv (fun _ e => by cases e) (fun f => f.d _ rfl) (fun _ e => by cases e) (fun _ _ _ e => by cases e) (fun _ _ => ⟨us, rfl⟩)
theorem Wd.unz {p : Addr} (w : Wd K (Zp Z p) ph m H) : Wd K Z ph m H := by
  refine ⟨w.len, w.nd, fun l xs h => ?_, fun a h => w.zin a (.inr h), fun l nm fs h => ?_, fun l kvs h => ?_, w.tb⟩
  · obtain ⟨a, vs, e1, e2, r⟩ := w.obj l xs h
    exact ⟨a, vs, e1, e2, r.unz⟩
  · obtain ⟨a, C, dx, fvs, e1, e0, e2, r⟩ := w.obi l nm fs h
    exact ⟨a, C, dx, fvs, e1, e0, e2, ⟨r.nm, r.vs.unz⟩⟩
  · obtain ⟨a, vvs, e1, e2, r⟩ := w.obd l kvs h
    exact ⟨a, vvs, e1, e2, ⟨r.ks, r.vs.unz⟩⟩
theorem nd_snoc {p : Addr} (h : ph.Nodup) (n : p ∉ ph) : (ph ++ [p]).Nodup := by
  rw [List.nodup_append]
  refine ⟨h, by simp, fun a ha b hb e => n ?_⟩
  have q : b = p := by simpa using hb
  rw [← q, ← e]
  exact ha
/-- a new thing that can be changed: what stood stays -/
theorem Wd.snoc {p : Addr} {o : MO} (w : Wd K (Zp Z p) ph m H) (n : p ∉ ph)
    (hl : ∀ xs, o = .lst xs → ∃ vs, H p = some (.lst vs) ∧ RepVs K (Zp Z p) ph H vs xs) (hi : ∀ nm fs, o = .ins nm fs → ∃ C dx fvs, PySem.W.nsIn K mainGlobals nm = some (some (.ref C)) ∧ H p = some (.ins C dx fvs) ∧ RepFs K (Zp Z p) ph H fvs fs)
    (hd : ∀ kvs, o = .dct kvs → ∃ vvs, H p = some (.dK vvs) ∧ RepKs K (Zp Z p) ph H vvs kvs) : Wd K Z (ph ++ [p]) (m ++ [o]) H := by
  have last : ∀ l : Nat, (ph ++ [p])[l]? = some p ∨ l ≠ m.length := fun l => by
    by_cases e : l = m.length
    · left; rw [e, ← w.len]; simp
    · exact .inr e
  have old : ∀ {l : Nat} {u : MO}, (m ++ [o])[l]? = some u → (l < m.length ∧ m[l]? = some u) ∨ (l = m.length ∧ o = u) := by
    intro l u h
    by_cases q : l < m.length
    · rw [List.getElem?_append_left q] at h; exact .inl ⟨q, h⟩
    · have e : l = m.length := by
        have := (List.getElem?_eq_some_iff.mp h).1
        rw [List.length_append, List.length_singleton] at this
        omega
      subst e
      exact .inr ⟨rfl, by simpa using h⟩
  have up : ∀ {l : Nat} {a : Addr}, l < m.length → ph[l]? = some a → (ph ++ [p])[l]? = some a := fun q e => by rw [List.getElem?_append_left (by rw [w.len]; exact q)]; exact e
  have ep : (ph ++ [p])[m.length]? = some p := by rw [← w.len]; simp
  refine ⟨by simp [w.len], nd_snoc w.nd n, fun l xs h' => ?_, fun a h => w.zin a (.inr h), fun l nm fs h' => ?_, fun l kvs h' => ?_, w.tb⟩
  · rcases old h' with ⟨q, h⟩ | ⟨rfl, e⟩
    · obtain ⟨a, vs, e1, e2, r⟩ := w.obj l xs h
      exact ⟨a, vs, up q e1, e2, r.box⟩
    · obtain ⟨vs, e2, r⟩ := hl xs e
      exact ⟨p, vs, ep, e2, r.box⟩
  · rcases old h' with ⟨q, h⟩ | ⟨rfl, e⟩
    · obtain ⟨a, C, dx, fvs, e1, e0, e2, r⟩ := w.obi l nm fs h
      exact ⟨a, C, dx, fvs, up q e1, e0, e2, ⟨r.nm, r.vs.box⟩⟩
    · obtain ⟨C, dx, fvs, e0, e2, r⟩ := hi nm fs e
      exact ⟨p, C, dx, fvs, ep, e0, e2, ⟨r.nm, r.vs.box⟩⟩
  · rcases old h' with ⟨q, h⟩ | ⟨rfl, e⟩
    · obtain ⟨a, vvs, e1, e2, r⟩ := w.obd l kvs h
      exact ⟨a, vvs, up q e1, e2, ⟨r.ks, r.vs.box⟩⟩
    · obtain ⟨vvs, e2, r⟩ := hd kvs e
      exact ⟨p, vvs, ep, e2, ⟨r.ks, r.vs.box⟩⟩
theorem Wd.box {p : Addr} (w : Wd K (Zp Z p) ph m H) (h : H p = some (.lst vs)) (n : p ∉ ph) (r : RepVs K (Zp Z p) ph H vs ds) : Wd K Z (ph ++ [p]) (m ++ [.lst ds]) H :=
  w.snoc n (fun xs e => by cases e; exact ⟨vs, h, r⟩) (fun _ _ e => by cases e) (fun _ e => by cases e)
/-- fewer mutable things -/
theorem MoR.cut {more : List Addr} {u : MO} {o : HO} (r : MoR K Z (ph ++ more) H u o) (hb : belowO ph.length u = true) : MoR K Z ph H u o := by
  cases u with
  | lst xs => obtain ⟨vs, e, r⟩ := r; exact ⟨vs, e, r.cut hb⟩
  | ins nm fs => obtain ⟨C, dx, fvs, e0, e, r⟩ := r; exact ⟨C, dx, fvs, e0, e, ⟨r.nm, r.vs.cut hb⟩⟩
  | dct kvs => obtain ⟨vvs, e, r⟩ := r; exact ⟨vvs, e, ⟨r.ks, r.vs.cut hb⟩⟩
theorem MoR.blw {u : MO} {o : HO} (r : MoR K Z ph H u o) : belowO ph.length u = true := by
  cases u with
  | lst xs => obtain ⟨vs, e, r⟩ := r; exact r.blw
  | ins nm fs => obtain ⟨C, dx, fvs, e0, e, r⟩ := r; exact r.vs.blw
  | dct kvs => obtain ⟨vvs, e, r⟩ := r; exact r.vs.blw
theorem Wd.cut {more : List Addr} {H0 : Hp} {m' : M} (w0 : Wd K Z ph m H0) (w : Wd K Z (ph ++ more) m' H) (hk : keptB m m' = true) : Wd K Z ph (m'.take m.length) H := by
  simp only [keptB, Bool.and_eq_true, decide_eq_true_eq, List.all_eq_true, List.mem_range, Bool.or_eq_true] at hk
  obtain ⟨hle, hk⟩ := hk
  have hnd := (List.nodup_append.mp w.nd).1
  refine Wd.of_mo w.tb (by rw [List.length_take, w0.len]; omega) hnd (fun a h => w.zin a h) fun l u h => ?_
  have hl : l < m.length := by
    have := (List.getElem?_eq_some_iff.mp h).1
    rw [List.length_take] at this
    omega
  rw [List.getElem?_take_of_lt hl] at h
  obtain ⟨a, o, e1, e2, r⟩ := w.mo h
  rw [List.getElem?_append_left (by rw [w0.len]; exact hl)] at e1
  refine ⟨a, o, e1, e2, r.cut ?_⟩
  rcases hk l hl with q | q
  · rw [h] at q
    obtain ⟨_, _, _, _, r0⟩ := w0.mo q.symm
    exact r0.blw
  · rw [h] at q
    rw [w0.len]
    exact q
theorem Sx.cut {more : List Addr} (s : Sx ph H (ph ++ more) H') : Sx ph H ph H' := ⟨⟨[], by simp⟩, fun _ h => .inl h, s.fr, s.ft, s.old, s.kl, s.ki, s.kd, s.tb⟩
end

variable [TabT]
/-! ## exceptions, frames -/
/-- an exception of the class cls, its dict at d -/
def RepX (K : PySem.W.Frag) (Z : Addr → Prop) (ph : List Addr) (H : Hp) (cls : Value) (d : Option Addr) (x : XV) : Prop :=
  ∃ C dx fvs, cls = .ref C ∧ d = some dx ∧ PySem.W.nsIn K mainGlobals x.nm = some (some (.ref C)) ∧ H dx = some (.xd fvs) ∧ RepFs K Z ph H fvs x.fs
/-- what the frame's suite holds: the exception's place, class, dict; what is wished of exceptions that leave -/
structure Yc where
  W : WX
  xa : Option (Addr × Value × Option Addr)
  cx : Option (Nat × XV)
structure RepE (K : PySem.W.Frag) (y : Yc) (Z : Addr → Prop) (ph : List Addr) (H : Hp) (σ : L2.St) (env : Env) : Prop where
  len : σ.length = env.length
  at_ : ∀ (i : Nat) (d : D), env[i]? = some (some d) → ∃ v, σ[i]? = some (some v) ∧ RepV K Z ph H v d
  xc : ∀ (i : Nat) (x : XV), y.cx = some (i, x) → ∃ a cls d, y.xa = some (a, cls, d) ∧ σ[i]? = some (some (.ref a)) ∧ RepX K Z ph H cls d x
/-- the slot is not the exception's -/
def Yc.off (y : Yc) (i : Nat) : Prop := ∀ (j : Nat) (x : XV), y.cx = some (j, x) → j ≠ i
section
variable {K : PySem.W.Frag} {y y' : Yc} {Z Z' : Addr → Prop} {ph ph' ph1 ph2 : List Addr} {H H' H1 H2 : Hp} {m m' : M} {v : V} {d : D} {vs : List V} {ds : List D} {σ : L2.St} {env : Env} {cls : Value} {dd : Option Addr} {x : XV}
theorem RepX.mono (r : RepX K Z ph H cls dd x) (s : Sx ph H ph' H') : RepX K Z ph' H' cls dd x := by
  obtain ⟨C, dx, fvs, e1, e2, e3, e4, r⟩ := r
  exact ⟨C, dx, fvs, e1, e2, e3, s.ft _ _ e4 .xd, r.mono s⟩
theorem RepX.zp {p : Addr} (r : RepX K Z ph H cls dd x) (hp : H p = none) : RepX K (Zp Z p) ph H cls dd x := by
  obtain ⟨C, dx, fvs, e1, e2, e3, e4, r⟩ := r
  exact ⟨C, dx, fvs, e1, e2, e3, e4, ⟨r.nm, r.vs.zp hp⟩⟩
theorem RepX.unz {p : Addr} (r : RepX K (Zp Z p) ph H cls dd x) : RepX K Z ph H cls dd x := by
  obtain ⟨C, dx, fvs, e1, e2, e3, e4, r⟩ := r
  exact ⟨C, dx, fvs, e1, e2, e3, e4, ⟨r.nm, r.vs.unz⟩⟩
theorem RepX.cut {more : List Addr} (r : RepX K Z (ph ++ more) H cls dd x) (hb : belows ph.length (x.fs.map (·.2)) = true) : RepX K Z ph H cls dd x := by
  obtain ⟨C, dx, fvs, e1, e2, e3, e4, r⟩ := r
  exact ⟨C, dx, fvs, e1, e2, e3, e4, ⟨r.nm, r.vs.cut hb⟩⟩
theorem RepE.mono (r : RepE K y Z ph H σ env) (s : Sx ph H ph' H') : RepE K y Z ph' H' σ env := ⟨r.len, fun i d h => let ⟨v, e, q⟩ := r.at_ i d h; ⟨v, e, q.mono s⟩, fun i x h => let ⟨a, c, d, e1, e2, q⟩ := r.xc i x h; ⟨a, c, d, e1, e2, q.mono s⟩⟩
theorem RepE.zp {p : Addr} (r : RepE K y Z ph H σ env) (hp : H p = none) : RepE K y (Zp Z p) ph H σ env := ⟨r.len, fun i d h => let ⟨v, e, q⟩ := r.at_ i d h; ⟨v, e, q.zp hp⟩, fun i x h => let ⟨a, c, d, e1, e2, q⟩ := r.xc i x h; ⟨a, c, d, e1, e2, q.zp hp⟩⟩
theorem RepE.unz {p : Addr} (r : RepE K y (Zp Z p) ph H σ env) : RepE K y Z ph H σ env := ⟨r.len, fun i d h => let ⟨v, e, q⟩ := r.at_ i d h; ⟨v, e, q.unz⟩, fun i x h => let ⟨a, c, d, e1, e2, q⟩ := r.xc i x h; ⟨a, c, d, e1, e2, q.unz⟩⟩
/-- without the exception's slot, under another wish -/
theorem RepE.plain (r : RepE K y Z ph H σ env) (h : y'.cx = none) : RepE K y' Z ph H σ env := ⟨r.len, r.at_, fun i x e => by rw [h] at e; cases e⟩
theorem RepE.wish (r : RepE K y Z ph H σ env) (h : y'.cx = y.cx) (h2 : y'.xa = y.xa) : RepE K y' Z ph H σ env := ⟨r.len, r.at_, fun i x e => by rw [h2]; exact r.xc i x (h ▸ e)⟩
theorem RepE.set (r : RepE K y Z ph H σ env) (q : RepV K Z ph H v d) (i : Nat) (ho : y.off i) : RepE K y Z ph H (σ.set i (some v)) (env.set i (some d)) := by
  refine ⟨by simp [r.len], fun j d' h => ?_, fun j x h => ?_⟩
  · by_cases e : i = j
    · subst e
      by_cases hi : i < env.length
      · rw [List.getElem?_set_self hi] at h
        cases h
        exact ⟨v, by rw [List.getElem?_set_self (by rw [r.len]; exact hi)], q⟩
      · rw [List.getElem?_eq_none (by simpa using hi)] at h; cases h
    · rw [List.getElem?_set_ne e] at h
      rw [List.getElem?_set_ne e]
      exact r.at_ j d' h
  · obtain ⟨a, c, d, e1, e2, q⟩ := r.xc j x h
    exact ⟨a, c, d, e1, by rw [List.getElem?_set_ne (Ne.symm (ho j x h))]; exact e2, q⟩
theorem RepE.unset (r : RepE K y Z ph H σ env) (i : Nat) (ho : y.off i) : RepE K y Z ph H (σ.set i none) (env.set i none) := by
  refine ⟨by simp [r.len], fun j d' h => ?_, fun j x h => ?_⟩
  · by_cases e : i = j
    · subst e
      by_cases hi : i < env.length
      · rw [List.getElem?_set_self hi] at h; cases h
      · rw [List.getElem?_eq_none (by simpa using hi)] at h; cases h
    · rw [List.getElem?_set_ne e] at h
      rw [List.getElem?_set_ne e]
      exact r.at_ j d' h
  · obtain ⟨a, c, d, e1, e2, q⟩ := r.xc j x h
    exact ⟨a, c, d, e1, by rw [List.getElem?_set_ne (Ne.symm (ho j x h))]; exact e2, q⟩
/-- a slot that is not told of -/
theorem RepE.any (r : RepE K y Z ph H σ env) (i : Nat) (o : Option V) (ho : y.off i) : RepE K y Z ph H (σ.set i o) (env.set i none) := by
  refine ⟨by simp [r.len], fun j d' h => ?_, fun j x h => ?_⟩
  · by_cases e : i = j
    · subst e
      by_cases hi : i < env.length
      · rw [List.getElem?_set_self hi] at h; cases h
      · rw [List.getElem?_eq_none (by simpa using hi)] at h; cases h
    · rw [List.getElem?_set_ne e] at h
      rw [List.getElem?_set_ne e]
      exact r.at_ j d' h
  · obtain ⟨a, c, d, e1, e2, q⟩ := r.xc j x h
    exact ⟨a, c, d, e1, by rw [List.getElem?_set_ne (Ne.symm (ho j x h))]; exact e2, q⟩
theorem RepE.wipe (r : RepE K y Z ph H σ env) : ∀ l : List Nat, (∀ i ∈ l, y.off i) → RepE K y Z ph H (wipe σ l) (wipeE env l)
  | [], _ => r
  | i :: l, hl => by
    have r := r.wipe l fun j hj => hl j (List.mem_cons_of_mem _ hj)
    exact r.unset i (hl i List.mem_cons_self)
end
end Pv

/-! ## rules that the kit's hand layer lacks: tuple * k for k < 2, sorted of a tuple -/
namespace Pv
open PySem PySem.Spec PyProof.Rows L2
section
theorem tm_same (l : Addr) (xs : Array Value) (n : Nat) (dd : Option Addr) (sl : Array (Option Value)) (x : Int) (u : Tok) (c0 : (decide (x < -(2 ^ 63)) || decide (x ≥ 2 ^ 63)) = false) (c1 : (xs.isEmpty || x == 1) = true) :
    Meets (Builtin.«tuple.__mul__» ⟨[.ref l, .int x u], []⟩) (fun _ R s => s.heap.get? l = some { cls := .type "tuple", dict := dd, data := .seq xs n, slots := sl } ∧ R (.ok (.ret (.ref l))) s) :=
  .of_wp fun prog w A R s h => by
    obtain ⟨hp, g, d, tk, os⟩ := s
    obtain ⟨hl, h⟩ := h
    have f1 := AutoSeq1.idx_int
    wp_walk using wpAny_loadPart' hl
    refine wpAny_ite_false (decide_eq_false (by rw [c0]; exact Bool.false_ne_true)) ?_
    wp_walk using wpAny_loadPart' hl
    exact ⟨_, rfl, h⟩
theorem tm_none (l : Addr) (xs : Array Value) (n : Nat) (dd : Option Addr) (sl : Array (Option Value)) (x : Int) (u : Tok) (c0 : (decide (x < -(2 ^ 63)) || decide (x ≥ 2 ^ 63)) = false) (c1 : (xs.isEmpty || x == 1) = false) (c2 : (decide (x ≤ 0) || xs.isEmpty) = true) :
    Meets (Builtin.«tuple.__mul__» ⟨[.ref l, .int x u], []⟩) (fun _ R s => s.heap.get? l = some { cls := .type "tuple", dict := dd, data := .seq xs n, slots := sl } ∧
      R (.ok (.ret (.ref s.heap.objs.size))) { s with heap := s.heap.push { cls := .type "tuple", data := .seq #[] } }) :=
  .of_wp fun prog w A R s h => by
    obtain ⟨hp, g, d, tk, os⟩ := s
    obtain ⟨hl, h⟩ := h
    have f1 := AutoSeq1.idx_int
    wp_walk using wpAny_loadPart' hl
    refine wpAny_ite_false (decide_eq_false (by rw [c0]; exact Bool.false_ne_true)) ?_
    wp_walk using wpAny_loadPart' hl
    exact ⟨_, rfl, h⟩
variable {X : Cx}
def rRepS (K : PySem.W.Frag) : R2 := fun x y H Q => ∃ l k xs, x = .ref l ∧ y = .int k ∧ SqT K H l xs ∧ -(2 ^ 63) ≤ k ∧ k < 2 ^ 63 ∧ (xs = [] ∨ k = 1) ∧ Q (.ref l) H
def rRepZ (K : PySem.W.Frag) : R2 := fun x y H Q => ∃ l k xs, x = .ref l ∧ y = .int k ∧ SqT K H l xs ∧ -(2 ^ 63) ≤ k ∧ k ≤ 0 ∧ xs ≠ [] ∧ ∀ p, H p = none → Q (.ref p) (upd H p (.tup []))
theorem op_repS : OpR X (binaryOp .Mult) (rRepS X.K) := by
  intro pins s σ H x y v u Q I rx ry h
  obtain ⟨l, k, xs, rfl, rfl, hT, h1, h2, hc, q⟩ := h
  cases rx
  obtain ⟨t, rfl⟩ := ry
  obtain ⟨its, r, ⟨⟨cls, dd, data, sl⟩, ho, hcl, n, hd⟩, hs⟩ := I.tuple hT
  simp only at hcl hd
  subst hcl hd
  have c0 : (decide (k < -(2 ^ 63)) || decide (k ≥ 2 ^ 63)) = false := by
    rw [decide_eq_false (by omega), decide_eq_false (by omega)] <;> rfl
  have c1 : (its.toArray.isEmpty || k == 1) = true := by
    rcases hc with rfl | rfl
    · cases r; rfl
    · simp
  exact wpAny_binaryOp_repeat_ref (T := "tuple") (U := "int") (by decide) ⟨_, ho, rfl⟩ (fun s' => typeIs_int s' k t) noFill_tuple_mul F.fills_int_mul F.slot_int_rmul repeat_tuple F.slot_int_index.lookup
    (call_meets F.slot_int_rmul (typeIs_int s k t) F.entry_int_rmul (F.args_int_rmul_2 _ _) (int_rmul_tuple k t l its.toArray n dd sl)
      ⟨ho, rfl, ⟨_, ho, rfl⟩, call_meets F.slot_tuple_mul ⟨_, ho, rfl⟩ F.entry_tuple_mul (F.args_tuple_mul_2 _ _) (tm_same l its.toArray n dd sl k t c0 c1) ⟨ho, ⟨.ref l, H, I, rfl, q⟩⟩⟩)
theorem op_repZ : OpR X (binaryOp .Mult) (rRepZ X.K) := by
  intro pins s σ H x y v u Q I rx ry h
  obtain ⟨l, k, xs, rfl, rfl, hT, h1, h2, hne, q⟩ := h
  cases rx
  obtain ⟨t, rfl⟩ := ry
  obtain ⟨its, r, ⟨⟨cls, dd, data, sl⟩, ho, hcl, n, hd⟩, hs⟩ := I.tuple hT
  simp only at hcl hd
  subst hcl hd
  have c0 : (decide (k < -(2 ^ 63)) || decide (k ≥ 2 ^ 63)) = false := by
    rw [decide_eq_false (by omega), decide_eq_false (by omega)] <;> rfl
  have hi : its.toArray.isEmpty = false := by
    cases r with
    | nil => exact absurd rfl hne
    | cons a b => rfl
  have c1 : (its.toArray.isEmpty || k == 1) = false := by
    rw [hi, Bool.false_or]
    exact beq_eq_false_iff_ne.mpr (by omega)
  have c2 : (decide (k ≤ 0) || its.toArray.isEmpty) = true := by rw [decide_eq_true h2]; rfl
  refine wpAny_binaryOp_repeat_ref (T := "tuple") (U := "int") (by decide) ⟨_, ho, rfl⟩ (fun s' => typeIs_int s' k t) noFill_tuple_mul F.fills_int_mul F.slot_int_rmul repeat_tuple F.slot_int_index.lookup
    (call_meets F.slot_int_rmul (typeIs_int s k t) F.entry_int_rmul (F.args_int_rmul_2 _ _) (int_rmul_tuple k t l its.toArray n dd sl)
      ⟨ho, rfl, ⟨_, ho, rfl⟩, call_meets F.slot_tuple_mul ⟨_, ho, rfl⟩ F.entry_tuple_mul (F.args_tuple_mul_2 _ _) (tm_none l its.toArray n dd sl k t c0 c1 c2) ⟨ho, ?_⟩⟩)
  exact ⟨.ref s.heap.objs.size, _, I.laid (t' := s.toks) (o := .tup []) (fun b ob q => Heap.get?_push_of_some _ q) (Nat.le_refl _) ⟨Nat.zero_le _, [], .nil, IsTup.new _ _⟩, rfl, q _ (I.hok.fresh (Nat.le_refl _))⟩
/-! ### sorted of a tuple -/
theorem col_tup {prog : Program} {w : World} {A : Around} {E : Value → Shared → Prop} {s : Shared} {l : Addr} {vs : List Value} {Q : List Value → Shared → Prop} (hl : s.heap.IsTuple l vs.toArray)
    (h : Q vs { s with heap := (s.heap.push (seqObj "list" #[] 0)).update s.heap.objs.size (Obj.mapSeq (· ++ vs.toArray)) }) (hsz : vs.length ≤ sizeLine) :
    wpAny (model prog w) A (collect (.ref l)) Q E s := by
  obtain ⟨o, ho, hc, n, hd⟩ := id hl
  unfold collect
  refine wpAny_bind (wpAny_runValue (codeAny_builtin entry_proto_collect' ?_))
  show wpAny _ _ (do again (.builtin "list.__iadd__" ⟨[← newList [], .ref l], []⟩)) _ _ s
  refine wpAny_bind (wpAny_newList (wpAny_pure ⟨Code.quiet_builtin _ (by decide +kernel), codeAny_builtin entry_list_iadd' ?_⟩))
  show wpAny _ _ (Builtin.List.listExtendWith (.ref s.heap.objs.size) (.ref l) (.ref s.heap.objs.size)) _ _ { s with heap := s.heap.push (seqObj "list" #[] 0) }
  unfold Builtin.List.listExtendWith
  have hq : (s.heap.push (seqObj "list" #[] 0)).get? l = some o := Heap.get?_push_of_some _ ho
  refine wpAny_bind (wpAny_typeOf (T := "tuple") ⟨o, hq, hc⟩ ?_)
  have ht : (Value.type "tuple" == Value.type "tuple") = true := by rfl
  rw [if_pos (by rw [ht]; simp)]
  refine wpAny_bind (listItems_at hq hd ?_)
  refine wpAny_bind (listItems_at (xs := #[]) (n := 0) (Heap.get?_push_size _ rfl) rfl ?_)
  rw [if_neg (by simp)]
  refine wpAny_bind (listUpdate_at (xs := #[]) (n := 0) (Heap.get?_push_size _ rfl) rfl ?_ (Nat.zero_le _) (by show (#[] ++ vs.toArray).size ≤ sizeLine + 1; simp only [Array.size_append, List.size_toArray, List.length_nil]; omega))
  refine wpAny_pure ?_
  show wpAny (model prog w) A (do
      let z ← load s.heap.objs.size
      match z.data with
      | .seq ys _ => pure ys.toList
      | _ => unsupported "internal:collect") Q E { s with heap := (s.heap.push (seqObj "list" #[] 0)).update s.heap.objs.size (Obj.mapSeq (· ++ vs.toArray)) }
  refine wpAny_bind (wpAny_load (get?_update_seq (Heap.get?_push_size _ rfl) _) ?_)
  show wpAny _ _ (pure ((#[] : Array Value) ++ vs.toArray).toList) Q E _
  rw [show ((#[] : Array Value) ++ vs.toArray).toList = vs by simp]
  exact wpAny_pure h
open SrtO Srt in
theorem srt_tup {prog : Program} {w : World} {A : Around} {E : Value → Shared → Prop} {s : Shared} {l : Addr} {vs : List Value} {lt : Value → Value → Bool} {Q : Value → Shared → Prop} (O : Swo lt) (hl : s.heap.IsTuple l vs.toArray) (hz : vs.length ≤ sizeLine)
    (hS : 2 ≤ vs.length → ∀ (g : Heap) (a : Addr), g.get? a = some (seqObj "list" vs.toArray 0) → (∀ b o, s.heap.get? b = some o → b ≠ a ∧ g.get? b = some o) → SortableO prog w A.in1.in1 { s with heap := g } a vs lt)
    (h : ∀ out : List Value, Srtd lt out → Stb lt out vs → Q (.ref (s.heap.objs.size + 1)) { s with heap := sortedAll s.heap vs out.toArray }) :
    wpAny (model prog w) A (call (.builtin "sorted") [.ref l]) Q E s := by
  refine Calls.call_function_entry kind_sorted plain_sorted entry_sorted (args_sorted1 _) ?_
  unfold Builtin.«sorted»
  refine wpAny_bind (m := checkCount "sorted" 1 1 _) (wpAny_pure ?_)
  refine wpAny_bind (col_tup hl ?_ hz)
  refine wpAny_bind (wpAny_newList ?_ hz)
  generalize hg : (s.heap.push (seqObj "list" #[] 0)).update s.heap.objs.size (Obj.mapSeq (· ++ vs.toArray)) = g
  have g1 : g.objs.size = s.heap.objs.size + 1 := by rw [← hg, Heap.size_update, size_push']
  have g2 : (g.push (seqObj "list" vs.toArray 0)).get? (s.heap.objs.size + 1) = some (seqObj "list" vs.toArray 0) := by
    rw [← g1]; exact Heap.get?_push_size _ rfl
  have g3 : ∀ b o, s.heap.get? b = some o → b ≠ s.heap.objs.size + 1 ∧ (g.push (seqObj "list" vs.toArray 0)).get? b = some o := fun b o q => by
    have hb : b < s.heap.objs.size := Heap.lt_size q
    refine ⟨Nat.ne_of_lt (Nat.lt_succ_of_lt hb), Heap.get?_push_of_some _ ?_⟩
    rw [← hg, Heap.get?_update_ne _ _ _ _ (Nat.ne_of_lt hb)]
    exact Heap.get?_push_of_some _ q
  show wpAny _ _ _ _ _ { s with heap := g.push (seqObj "list" vs.toArray 0) }
  rw [g1]
  refine wpAny_bind (wpAny_holding (wpAny_call_entry slot_list_sort ⟨_, g2, rfl⟩ entry_list_sort (list_sort_ord O g2 hz (fun h2 => hS h2 _ _ g2 g3) fun out o1 o2 => ⟨_, rfl, ?_⟩) (args_list_sort _)))
  refine wpAny_pure ⟨_, rfl, ?_⟩
  subst hg
  exact h out o1 o2
def rSrtT (K : PySem.W.Frag) : List V → Hp → VK → Prop := fun vs H Q => ∃ (a : Addr) (ns : List Int), vs = [V.ref a] ∧ SqT K H a (ns.map V.int) ∧
  ∀ (ns' : List Int) (p : Addr), ns'.Perm ns → ns'.Pairwise (· ≤ ·) → H p = none → Q (.ref p) (upd H p (.lst (ns'.map V.int)))
theorem cr_srtT : CallR X (.builtin "sorted") (rSrtT X.K) := by
  intro pins s σ H vs us Q I r h
  obtain ⟨a, ns, rfl, ht, q⟩ := h
  obtain ⟨its, rv, hl, hz⟩ := I.tuple ht
  rw [Vals.ref1 r]
  have hi := rv.ints
  refine srt_tup SrtO.swo_int hl (by rw [← rv.length]; exact hz) (fun h2 g a' _ _ => SrtO.ints_sortable hi h2) fun out o1 o2 => ?_
  obtain ⟨k1, k2, k3⟩ := SrtO.ints_out hi o1 o2
  obtain ⟨ep, he⟩ := sortedAll_at s.heap its out.toArray
  have hn : ((out.map SrtO.iv).map V.int).length ≤ sizeLine := by
    rw [List.length_map, k2.length_eq]
    rwa [List.length_map] at hz
  exact ⟨.ref _, upd H (s.heap.objs.size + 1) (.lst ((out.map SrtO.iv).map V.int)), I.laid (t' := s.toks) (fun _ _ => sortedAll_old) (Nat.le_succ _) ⟨hn, out, ep, vals_of_ints k1, he⟩, rfl, q _ _ k2 k3 (I.hok.fresh (Nat.le_succ _))⟩
end
theorem sort_uniq : ∀ {a b : List Int}, a.Perm b → a.Pairwise (· ≤ ·) → b.Pairwise (· ≤ ·) → a = b
  | [], b, p, _, _ => by rw [List.nil_perm.mp p]
  | x :: a, [], p, _, _ => by cases List.perm_nil.mp p
  | x :: a, y :: b, p, h1, h2 => by
    have e : x = y := by
      have m1 : x ∈ y :: b := p.mem_iff.mp List.mem_cons_self
      have m2 : y ∈ x :: a := p.mem_iff.mpr List.mem_cons_self
      rw [List.pairwise_cons] at h1 h2
      rcases List.mem_cons.mp m1 with e | m1
      · exact e
      · rcases List.mem_cons.mp m2 with e | m2
        · exact e.symm
        · have := h1.1 y m2; have := h2.1 x m1; omega
    subst e
    rw [sort_uniq (List.Perm.cons_inv p) (List.pairwise_cons.mp h1).2 (List.pairwise_cons.mp h2).2]
section
variable {X : Cx}
theorem op_powW : OpR X (binaryOp .Pow) (rI (fun i j => 0 ≤ j ∧ j ≤ 100 ∧ i.natAbs.log2 < 5000) fun i j => .int (i ^ j.toNat)) := opI fun i j _ _ _ _ _ hc q => by
  have hb : Builtin.Int.intBits i ≤ 5000 := by unfold Builtin.Int.intBits; split <;> omega
  refine PyProof.Rows.pow_int hc.1 ?_ q
  have h : (Builtin.Int.intBits i : Int) * j ≤ 5000 * 100 := Int.mul_le_mul (by omega) hc.2.1 hc.1 (by decide)
  omega
/-- // by a negative divisor -/
theorem op_fdivM : OpR X (binaryOp .FloorDiv) (rI (fun _ j => j < 0 ∧ j.natAbs.log2 < 9000) fun i j => .int (i.fdiv j)) := opI fun i j _ _ _ _ _ hc q =>
  PyProof.Rows.floordiv_int (by have := hc.1; omega) q (.inl (PyProof.noPylong_of_log2 hc.2))
theorem cr_listS (hc : X.calm = true) : CallR X (.type "list") (fun xs H Q => ∃ z : Str, xs = [.str z] ∧ z.length ≤ sizeLine ∧ ∀ l, H l = none → Q (.ref l) (upd H l (.lst (z.cps.toList.map fun c => V.str ⟨#[c]⟩)))) := by
  intro pins s σ H xs us Q I r h
  obtain ⟨z, rfl, hz, q⟩ := h
  obtain ⟨u, rfl, t, rfl⟩ := vals1 r
  refine PySem.call_list_str (I.ok.hd hc) z t (fun h' tk acc' c' kp e hi => ?_) hz
  refine ⟨.ref s.heap.objs.size, _, I.laid (t' := tk) (o := .lst (z.cps.toList.map fun c => V.str ⟨#[c]⟩)) kp (Nat.le_refl _) ⟨?_, acc'.toList, c', ?_, ?_⟩, rfl, q _ (I.hok.fresh (Nat.le_refl _))⟩
  · rw [List.length_map, Array.length_toList]; exact hz
  · refine vals_of_at ?_ ?_
    · rw [List.length_map, Array.length_toList, Array.length_toList]; exact hi.1.symm
    · intro i v u h1 h2
      obtain ⟨c, w, e1, e2⟩ := hi.2 i u (by simpa using h2)
      rw [List.getElem?_map] at h1
      have e3 : z.cps.toList[i]? = some c := by simpa using e1
      rw [e3] at h1
      cases h1
      exact ⟨w, e2⟩
  · rw [Array.toArray_toList]; exact e
end
end Pv

/-! ## zip of two rows of one length, each a list or a tuple, with strict=True or without -/
namespace Pv
open PySem PySem.Spec PyProof.Rows L2
open PySem.Sem (wp)
def SA (b : Bool) (h : Heap) (l : Addr) (xs : Array Value) : Prop := match b with
  | true => h.IsList l xs
  | false => h.IsTuple l xs
def IA (b : Bool) (h : Heap) (it l : Addr) (i : Nat) : Prop := match b with
  | true => h.IsListIter it l i
  | false => h.IsTupleIter it l i
section
variable {b : Bool} {h h' : Heap} {a c l it : Addr} {xs : Array Value} {i : Nat}
theorem SA.ext (x : SA b h a xs) (e : Heap.ExtBut c h h') (n : a ≠ c) : SA b h' a xs := by
  cases b
  · exact Heap.IsTuple.extBut x e n
  · exact Heap.IsList.extBut x e n
theorem IA.ext (x : IA b h a l i) (e : Heap.ExtBut c h h') (n : a ≠ c) : IA b h' a l i := by
  cases b
  · exact Heap.IsTupleIter.extBut x e n
  · exact Heap.IsListIter.extBut x e n
theorem IA.put (x : IA b h a l i) (e : ∀ o, h.get? a = some o → h'.get? a = some o) : IA b h' a l i := by
  cases b
  · exact Heap.IsTupleIter.at x e
  · exact Heap.IsListIter.at x e
theorem IA.obj (x : IA b h a l i) : ∃ o, h.get? a = some o ∧ ∃ f, o.data = .fields f := by
  cases b
  · obtain ⟨o, e, _, d⟩ := x; exact ⟨o, e, _, d⟩
  · obtain ⟨o, e, _, d⟩ := x; exact ⟨o, e, _, d⟩
theorem IA.lt (x : IA b h a l i) : a < h.objs.size := by obtain ⟨o, e, _⟩ := x.obj; exact Heap.lt_size e
end
section
variable {prog : Program} {w : World} {A : Around} {E : Value → Shared → Prop} {s : Shared}
theorem nx_item {b : Bool} {it l : Addr} {i : Nat} {xs : Array Value} {x : Value} {Q : Value → Shared → Prop} (hi : IA b s.heap it l i) (hl : SA b s.heap l xs) (hx : xs[i]? = some x)
    (hQ : ∀ h', IA b h' it l (i + 1) → Heap.SameBut it s.heap h' → Q x { s with heap := h' }) : wpAny (model prog w) A (Builtin.SmallTypes.nextOf (.ref it)) Q E s := by
  cases b
  · exact RZ.nextOf_tuple_item hi hl hx hQ
  · exact wpAny_nextOf_list_item hi hl hx hQ
theorem nx_end {b : Bool} {it l : Addr} {i : Nat} {xs : Array Value} {Q : Value → Shared → Prop} (hh : A.handled = none) (hi : IA b s.heap it l i) (hl : SA b s.heap l xs) (hx : xs[i]? = none)
    (hE : ∀ h' e, Heap.ExtBut it s.heap h' → (∃ o, h'.get? e = some o ∧ o.cls = .type "StopIteration") → E (.ref e) { s with heap := h' }) : wpAny (model prog w) A (Builtin.SmallTypes.nextOf (.ref it)) Q E s := by
  cases b
  · exact RZ.nextOf_tuple_end hh hi hl hx hE
  · exact wpAny_nextOf_list_end hh hi hl hx hE
theorem ne_item {b : Bool} {it l : Addr} {i : Nat} {xs : Array Value} {x : Value} {Q : Option Value → Shared → Prop} (hi : IA b s.heap it l i) (hl : SA b s.heap l xs) (hx : xs[i]? = some x)
    (hQ : ∀ h', IA b h' it l (i + 1) → Heap.SameBut it s.heap h' → Q (some x) { s with heap := h' }) : wpAny (model prog w) A (Builtin.SmallTypes.nextOrEnd (.ref it)) Q E s := by
  unfold Builtin.SmallTypes.nextOrEnd
  exact wpAny_bind (wpAny_attempt (nx_item hi hl hx fun h' a1 a2 => wpAny_pure (hQ h' a1 a2)))
theorem ne_end {b : Bool} {it l : Addr} {i : Nat} {xs : Array Value} {Q : Option Value → Shared → Prop} (hh : A.handled = none) (hi : IA b s.heap it l i) (hl : SA b s.heap l xs) (hx : xs[i]? = none)
    (hQ : ∀ h', Heap.ExtBut it s.heap h' → Q none { s with heap := h' }) : wpAny (model prog w) A (Builtin.SmallTypes.nextOrEnd (.ref it)) Q E s := by
  unfold Builtin.SmallTypes.nextOrEnd
  refine wpAny_bind (wpAny_attempt (nx_end hh hi hl hx fun h' e a1 a2 => ?_))
  obtain ⟨o, ho, hc⟩ := a2
  exact wpAny_bind (wpAny_isInstance (T := "StopIteration") (b := true) ⟨o, ho, hc⟩ isSubtype_stop (wpAny_pure (hQ _ a1)))
/-- the zip's object -/
abbrev ZO (st : Bool) (h : Heap) (z TI TO : Addr) (f0 : Value) : Prop :=
  h.get? z = some { cls := .type "zip", dict := none, data := .fields #[f0, .bool false, .bool st, .ref TI, .ref TO], slots := #[] }
theorem zo_item {st b1 b2 : Bool} {z TI TO i1 i2 l1 l2 : Addr} {k : Nat} {xs ys : Array Value} {x y a c : Value} {Q : Value → Shared → Prop} (D : ZipApart z TI TO i1 i2 l1 l2)
    (qz : ZO st s.heap z TI TO .none) (qI : IsPair s.heap TI (.ref i1) (.ref i2)) (qO : IsPair s.heap TO a c)
    (q1 : IA b1 s.heap i1 l1 k) (q2 : IA b2 s.heap i2 l2 k) (r1 : SA b1 s.heap l1 xs) (r2 : SA b2 s.heap l2 ys) (hx : xs[k]? = some x) (hy : ys[k]? = some y)
    (hQ : ∀ h', ZO st h' z TI TO (rawInt s.heap.objs.size) → IsPair h' TO x y → IA b1 h' i1 l1 (k + 1) → IA b2 h' i2 l2 (k + 1) → IsPair h' s.heap.objs.size x y → h'.objs.size = s.heap.objs.size + 1 →
      (∀ c o, c ≠ z → c ≠ TO → c ≠ i1 → c ≠ i2 → s.heap.get? c = some o → h'.get? c = some o) → Q (.ref s.heap.objs.size) { s with heap := h' }) :
    wpAny (model prog w) A (Builtin.«zip.__next__» ⟨[.ref z], []⟩) (fun fin s' => ∃ v, fin = .done (.ret v) ∧ Q v s') E s := by
  show wpAny _ _ (field (.ref z) 2 >>= _) _ _ _
  refine wpAny_bind (wpAny_field qz rfl (x := .bool st) rfl ?_)
  show wpAny _ _ (field (.ref z) 3 >>= _) _ _ _
  refine wpAny_bind (wpAny_field qz rfl (x := .ref TI) rfl (wpAny_bind (wpAny_seqItems qI rfl ?_)))
  show wpAny _ _ (Builtin.SmallTypes.ownedTupleIsFree (.ref z) >>= _) _ _ _
  refine wpAny_bind ?_
  unfold Builtin.SmallTypes.ownedTupleIsFree
  refine wpAny_bind (wpAny_field qz rfl (x := .none) rfl (wpAny_pure ?_))
  simp only [if_true]
  refine wpAny_bind (wpAny_rule (wpAny_bind (wpAny_field qz rfl (x := .ref TO) rfl ?_)))
  refine wpAny_bind (wpAny_setField_rec qz (by simp) fun g1 z1 s1 => ?_)
  replace z1 : ZO st g1 z TI TO .ellipsis := z1
  refine wpAny_bind ?_
  simp only [List.zipIdx_cons, List.zipIdx_nil, List.forIn_cons, List.forIn_nil]
  refine wpAny_bind (wpAny_bind (wpAny_onRaise ?_))
  have step1 : ∀ {R : Option Value → Shared → Prop} {E' : Value → Shared → Prop}, (∀ h', IA b1 h' i1 l1 (k + 1) → Heap.SameBut i1 g1 h' → R (some x) { s with heap := h' }) →
      wpAny (model prog w) A (if (Value.bool st == .bool true) = true then Builtin.SmallTypes.nextOrEnd (.ref i1) else (do return some (← Builtin.SmallTypes.nextOf (.ref i1)))) R E' { s with heap := g1 } := by
    intro R E' hR
    cases st
    · exact wpAny_bind (nx_item (s := { s with heap := g1 }) (q1.ext s1.extBut D.i1z) (r1.ext s1.extBut D.l1z) hx fun h' a1 a2 => wpAny_pure (hR h' a1 a2))
    · exact ne_item (s := { s with heap := g1 }) (q1.ext s1.extBut D.i1z) (r1.ext s1.extBut D.l1z) hx hR
  refine step1 fun g2 i2' s2 => ?_
  have o2 : IsPair g2 TO a c := s2.extBut _ _ D.TOi1 (s1.extBut _ _ D.TOz qO)
  refine wpAny_bind (wpAny_seqItems o2 rfl ?_)
  refine wpAny_bind (wpAny_updateSeq_pair o2 fun g3 o3 s3 => ?_)
  replace o3 : IsPair g3 TO x c := o3
  refine wpAny_bind (wpAny_letGo (wpAny_pure ?_))
  refine wpAny_bind (wpAny_bind (wpAny_onRaise ?_))
  have j2 : IA b2 g3 i2 l2 k := ((q2.ext s1.extBut D.i2z).ext s2.extBut D.i12.symm).ext s3.extBut D.TOi2.symm
  have m2 : SA b2 g3 l2 ys := ((r2.ext s1.extBut D.l2z).ext s2.extBut D.l2i1).ext s3.extBut D.l2TO
  have step2 : ∀ {R : Option Value → Shared → Prop} {E' : Value → Shared → Prop}, (∀ h', IA b2 h' i2 l2 (k + 1) → Heap.SameBut i2 g3 h' → R (some y) { s with heap := h' }) →
      wpAny (model prog w) A (if (Value.bool st == .bool true) = true then Builtin.SmallTypes.nextOrEnd (.ref i2) else (do return some (← Builtin.SmallTypes.nextOf (.ref i2)))) R E' { s with heap := g3 } := by
    intro R E' hR
    cases st
    · exact wpAny_bind (nx_item (s := { s with heap := g3 }) j2 m2 hy fun h' a1 a2 => wpAny_pure (hR h' a1 a2))
    · exact ne_item (s := { s with heap := g3 }) j2 m2 hy hR
  refine step2 fun g4 i4 s4 => ?_
  have o4 : IsPair g4 TO x c := s4.extBut _ _ D.TOi2 o3
  refine wpAny_bind (wpAny_seqItems o4 rfl ?_)
  refine wpAny_bind (wpAny_updateSeq_pair o4 fun g5 o5 s5 => ?_)
  replace o5 : IsPair g5 TO x y := o5
  refine wpAny_bind (wpAny_letGo (wpAny_pure (wpAny_pure ?_)))
  refine wpAny_bind (wpAny_seqItems o5 rfl ?_)
  refine wpAny_bind (wpAny_newTuple ?_)
  have e5 : g5.objs.size = s.heap.objs.size := by rw [s5.1, s4.1, s3.1, s2.1, s1.1]
  have z5 : ZO st g5 z TI TO .ellipsis := s5.extBut _ _ D.TOz.symm (s4.extBut _ _ D.i2z.symm (s3.extBut _ _ D.TOz.symm (s2.extBut _ _ D.i1z.symm z1)))
  have kp : ∀ c o, c ≠ z → c ≠ TO → c ≠ i1 → c ≠ i2 → s.heap.get? c = some o → g5.get? c = some o := fun c o n1 n2 n3 n4 e =>
    s5.extBut _ _ n2 (s4.extBut _ _ n4 (s3.extBut _ _ n2 (s2.extBut _ _ n3 (s1.extBut _ _ n1 e))))
  have p1 : IA b1 g5 i1 l1 (k + 1) := ((i2'.ext s3.extBut D.TOi1.symm).ext s4.extBut D.i12).ext s5.extBut D.TOi1.symm
  have p2 : IA b2 g5 i2 l2 (k + 1) := i4.ext s5.extBut D.TOi2.symm
  have lz : z < g5.objs.size := Heap.lt_size z5
  show wpAny _ _ (Builtin.SmallTypes.ownedTupleHandOut (.ref z) (.ref g5.objs.size) >>= _) _ _ _
  refine wpAny_bind ?_
  unfold Builtin.SmallTypes.ownedTupleHandOut
  have z6 : ZO st (g5.push { cls := .type "tuple", data := .seq #[x, y] }) z TI TO .ellipsis := Heap.get?_push_of_some _ z5
  refine wpAny_bind (wpAny_setField_rec z6 (by simp) fun g7 z7 s7 => ?_)
  replace z7 : ZO st g7 z TI TO (rawInt g5.objs.size) := z7
  refine wpAny_setField_rec z7 (by simp) fun g8 z8 s8 => ?_
  replace z8 : ZO st g8 z TI TO (rawInt g5.objs.size) := z8
  have up : ∀ c o, c ≠ z → g5.get? c = some o → g8.get? c = some o := fun c o n1 e => s8.extBut _ _ n1 (s7.extBut _ _ n1 (Heap.get?_push_of_some _ e))
  have t8 : IsPair g8 g5.objs.size x y := s8.extBut _ _ (Nat.ne_of_gt lz) (s7.extBut _ _ (Nat.ne_of_gt lz) (Heap.get?_push_size _ rfl))
  have e8 : g8.objs.size = g5.objs.size + 1 := by rw [s8.1, s7.1, Heap.size_push]
  rw [e5] at z8 t8 e8
  refine wpAny_pure ⟨_, rfl, ?_⟩
  show Q (.ref g5.objs.size) _
  rw [e5]
  exact hQ g8 z8 (up _ _ D.TOz o5) (p1.put fun o e => up _ o D.i1z e) (p2.put fun o e => up _ o D.i2z e) t8 e8 fun c o n1 n2 n3 n4 e => up c o n1 (kp c o n1 n2 n3 n4 e)
theorem stop_at {α : Type} {Q : α → Shared → Prop} (hh : A.handled = none) (hE : ∀ h' e, (∀ c o, s.heap.get? c = some o → h'.get? c = some o) → (∃ o, h'.get? e = some o ∧ o.cls = .type "StopIteration") → E (.ref e) { s with heap := h' }) :
    wpAny (model prog w) A (Builtin.SmallTypes.stopIteration (α := α)) Q E s := by
  unfold Builtin.SmallTypes.stopIteration
  refine wpAny_bind ?_
  simp only [newExc, newTuple]
  refine wpAny_bind (wpAny_newObj_type ?_ (by size_fits))
  refine wpAny_bind (m := firstArgMember _ _) (wpAny_of_eq (a := Value.none) (by simp only [firstArgMember]; rfl) ?_)
  refine wpAny_newObj_type ?_ (by size_fits)
  simp only [raiseNew]
  refine wpAny_bind (wpAny_handled ?_)
  rw [hh]
  refine wpAny_bind (wpAny_pure (wpAny_throw ?_))
  exact hE _ _ (fun c o q => Heap.get?_push_of_some _ (Heap.get?_push_of_some _ q)) ⟨_, Heap.get?_push_size _ rfl, rfl⟩
theorem zo_end {st b1 b2 : Bool} {z TI TO i1 i2 l1 l2 : Addr} {k : Nat} {xs ys : Array Value} {a c : Value} {Q : Fin → Shared → Prop} (hh : A.handled = none) (D : ZipApart z TI TO i1 i2 l1 l2)
    (qz : ZO st s.heap z TI TO .none) (qI : IsPair s.heap TI (.ref i1) (.ref i2)) (qO : IsPair s.heap TO a c)
    (q1 : IA b1 s.heap i1 l1 k) (q2 : IA b2 s.heap i2 l2 k) (r1 : SA b1 s.heap l1 xs) (r2 : SA b2 s.heap l2 ys) (hx : xs[k]? = none) (hy : ys[k]? = none)
    (hE : ∀ h' e, (∀ c o, c ≠ z → c ≠ TO → c ≠ i1 → c ≠ i2 → s.heap.get? c = some o → h'.get? c = some o) → (∃ o, h'.get? e = some o ∧ o.cls = .type "StopIteration") → E (.ref e) { s with heap := h' }) :
    wpAny (model prog w) A (Builtin.«zip.__next__» ⟨[.ref z], []⟩) Q E s := by
  show wpAny _ _ (field (.ref z) 2 >>= _) _ _ _
  refine wpAny_bind (wpAny_field qz rfl (x := .bool st) rfl ?_)
  show wpAny _ _ (field (.ref z) 3 >>= _) _ _ _
  refine wpAny_bind (wpAny_field qz rfl (x := .ref TI) rfl (wpAny_bind (wpAny_seqItems qI rfl ?_)))
  show wpAny _ _ (Builtin.SmallTypes.ownedTupleIsFree (.ref z) >>= _) _ _ _
  refine wpAny_bind ?_
  unfold Builtin.SmallTypes.ownedTupleIsFree
  refine wpAny_bind (wpAny_field qz rfl (x := .none) rfl (wpAny_pure ?_))
  simp only [if_true]
  refine wpAny_bind (wpAny_rule (wpAny_bind (wpAny_field qz rfl (x := .ref TO) rfl ?_)))
  refine wpAny_bind (wpAny_setField_rec qz (by simp) fun g1 z1 s1 => ?_)
  replace z1 : ZO st g1 z TI TO .ellipsis := z1
  refine wpAny_bind ?_
  simp only [List.zipIdx_cons, List.zipIdx_nil, List.forIn_cons, List.forIn_nil]
  refine wpAny_bind (wpAny_bind (wpAny_onRaise ?_))
  have j1 : IA b1 g1 i1 l1 k := q1.ext s1.extBut D.i1z
  have m1 : SA b1 g1 l1 xs := r1.ext s1.extBut D.l1z
  cases st
  · show wpAny _ _ (Builtin.SmallTypes.nextOf (.ref i1) >>= _) _ _ _
    refine wpAny_bind (nx_end (s := { s with heap := g1 }) hh j1 m1 hx fun g2 e s2 he => ?_)
    obtain ⟨oe, hoe, hce⟩ := he
    have z2 : ZO false g2 z TI TO .ellipsis := s2 _ _ D.i1z.symm z1
    have ez : e ≠ z := fun x => by subst x; rw [z2] at hoe; cases hoe; simp at hce
    exact wpAny_setField_rec z2 (by simp) fun g3 _ s3 => hE g3 e (fun c o n1 _ n3 _ x => s3.extBut _ _ n1 (s2 _ _ n3 (s1.extBut _ _ n1 x))) ⟨oe, s3.extBut _ _ ez hoe, hce⟩
  · show wpAny _ _ (Builtin.SmallTypes.nextOrEnd (.ref i1)) _ _ _
    refine ne_end (s := { s with heap := g1 }) hh j1 m1 hx fun g2 s2 => ?_
    have z2 : ZO true g2 z TI TO .ellipsis := s2 _ _ D.i1z.symm z1
    refine wpAny_bind (wpAny_setField_rec z2 (by simp) fun g3 _ s3 => ?_)
    refine wpAny_bind ?_
    refine wpAny_bind (m := forIn ((List.drop 1 [Value.ref i1, Value.ref i2]).zipIdx 1) PUnit.unit _) ?_
    simp only [List.drop_succ_cons, List.drop_zero, List.zipIdx_cons, List.zipIdx_nil, List.forIn_cons, List.forIn_nil]
    have j2 : IA b2 g3 i2 l2 k := ((q2.ext s1.extBut D.i2z).ext s2 D.i12.symm).ext s3.extBut D.i2z
    have m2 : SA b2 g3 l2 ys := ((r2.ext s1.extBut D.l2z).ext s2 D.l2i1).ext s3.extBut D.l2z
    refine wpAny_bind (wpAny_bind (ne_end (s := { s with heap := g3 }) hh j2 m2 hy fun g4 s4 => ?_))
    refine wpAny_ite_false (by decide) (wpAny_pure (wpAny_pure (wpAny_bind (wpAny_rule ?_))))
    refine stop_at (s := { s with heap := g4 }) hh fun g5 e k5 he => hE g5 e (fun c o n1 _ n3 n4 x => k5 c o (s4 _ _ n4 (s3.extBut _ _ n1 (s2 _ _ n3 (s1.extBut _ _ n1 x))))) he
theorem pz_item {st b1 b2 : Bool} {z TI TO i1 i2 l1 l2 : Addr} {k : Nat} {xs ys : Array Value} {x y a c : Value} {Q : Option Value → Shared → Prop} (D : ZipApart z TI TO i1 i2 l1 l2)
    (qz : ZO st s.heap z TI TO .none) (qI : IsPair s.heap TI (.ref i1) (.ref i2)) (qO : IsPair s.heap TO a c)
    (q1 : IA b1 s.heap i1 l1 k) (q2 : IA b2 s.heap i2 l2 k) (r1 : SA b1 s.heap l1 xs) (r2 : SA b2 s.heap l2 ys) (hx : xs[k]? = some x) (hy : ys[k]? = some y)
    (hQ : ∀ h', ZO st h' z TI TO (rawInt s.heap.objs.size) → IsPair h' TO x y → IA b1 h' i1 l1 (k + 1) → IA b2 h' i2 l2 (k + 1) → IsPair h' s.heap.objs.size x y → h'.objs.size = s.heap.objs.size + 1 →
      (∀ c o, c ≠ z → c ≠ TO → c ≠ i1 → c ≠ i2 → s.heap.get? c = some o → h'.get? c = some o) → Q (some (.ref s.heap.objs.size)) { s with heap := h' }) :
    wpAny (model prog w) A (pyNext (.ref z)) Q E s := by
  have ty : s.TypeIs (.ref z) "zip" := ⟨_, qz, rfl⟩
  unfold pyNext
  exact wpAny_bind (wpAny_attempt (wpAny_callSpecial?_slot (name := Str.ofString "__next__") ty F.slot_zip_next
    (wpAny_call_entry F.slot_zip_next ty F.entry_zip_next
      (zo_item D qz qI qO q1 q2 r1 r2 hx hy fun h' a1 a2 a3 a4 a5 a6 a7 => wpAny_pure (hQ h' a1 a2 a3 a4 a5 a6 a7)) (F.args_zip_next_1 _))))
theorem pz_end {st b1 b2 : Bool} {z TI TO i1 i2 l1 l2 : Addr} {k : Nat} {xs ys : Array Value} {a c : Value} {Q : Option Value → Shared → Prop} (hh : A.handled = none) (D : ZipApart z TI TO i1 i2 l1 l2)
    (qz : ZO st s.heap z TI TO .none) (qI : IsPair s.heap TI (.ref i1) (.ref i2)) (qO : IsPair s.heap TO a c)
    (q1 : IA b1 s.heap i1 l1 k) (q2 : IA b2 s.heap i2 l2 k) (r1 : SA b1 s.heap l1 xs) (r2 : SA b2 s.heap l2 ys) (hx : xs[k]? = none) (hy : ys[k]? = none)
    (hQ : ∀ h', (∀ c o, c ≠ z → c ≠ TO → c ≠ i1 → c ≠ i2 → s.heap.get? c = some o → h'.get? c = some o) → Q none { s with heap := h' }) : wpAny (model prog w) A (pyNext (.ref z)) Q E s := by
  have ty : s.TypeIs (.ref z) "zip" := ⟨_, qz, rfl⟩
  unfold pyNext
  refine wpAny_bind (wpAny_attempt (wpAny_callSpecial?_slot (name := Str.ofString "__next__") ty F.slot_zip_next
    (wpAny_call_entry F.slot_zip_next ty F.entry_zip_next (zo_end hh D qz qI qO q1 q2 r1 r2 hx hy fun h' e hk he => ?_) (F.args_zip_next_1 _))))
  obtain ⟨o, ho, hc⟩ := he
  exact wpAny_bind (wpAny_isInstance (T := "StopIteration") (b := true) ⟨o, ho, hc⟩ isSubtype_stop (wpAny_pure (hQ _ hk)))
theorem go_zip {st : Bool} {elts : List Expr} {kk : Nat} {pos : Pos} {z TI TO T : Addr} {Q : Unit → Shared → Prop} (qz : ZO st s.heap z TI TO (rawInt T))
    (hQ : ∀ h', ZO st h' z TI TO .none → Heap.SameBut z s.heap h' → Q () { s with heap := h' }) :
    wpAny (model prog w) A (letOwnedTupleGo (.Tuple elts kk pos) (.ref z) (.ref T)) Q E s := by
  unfold letOwnedTupleGo
  refine wpAny_bind (wpAny_load qz ?_)
  refine wpAny_ite_true (c := _ = true) (by simp) ?_
  refine wpAny_bind (wpAny_rule ?_)
  exact wpAny_setField_rec qz (by simp) fun h' z' s' => hQ h' z' s'
theorem it_zip {st : Bool} {z TI TO : Addr} {f0 : Value} {Q : Value → Shared → Prop} (qz : ZO st s.heap z TI TO f0) (h : Q (.ref z) s) : wpAny (model prog w) A (pyIter (.ref z)) Q E s := by
  have ty : s.TypeIs (.ref z) "zip" := ⟨_, qz, rfl⟩
  refine wpAny_pyIter_slot ty F.slot_zip_iter (wpAny_call_entry F.slot_zip_iter ty F.entry_zip_iter ?_ (F.args_zip_iter_1 _))
  exact wpAny_pure ⟨_, rfl, "zip", _, ty, F.slot_zip_next.lookup, h⟩
end
def ito (b : Bool) (l : Addr) : Obj := match b with
  | true => { cls := .type "list_iterator", data := .fields #[.ref l, .int 0 0] }
  | false => { cls := .type "tuple_iterator", data := .fields #[.ref l, .int 0 0] }
abbrev zh1 (b1 : Bool) (h : Heap) (l1 : Addr) : Heap := h.push (ito b1 l1)
abbrev zh2 (b1 b2 : Bool) (h : Heap) (l1 l2 : Addr) : Heap := (zh1 b1 h l1).push (ito b2 l2)
abbrev zh3 (b1 b2 : Bool) (h : Heap) (l1 l2 : Addr) : Heap := (zh2 b1 b2 h l1 l2).push { cls := .type "tuple", data := .seq #[.ref h.objs.size, .ref (zh1 b1 h l1).objs.size] }
abbrev zh4 (b1 b2 : Bool) (h : Heap) (l1 l2 : Addr) : Heap := (zh3 b1 b2 h l1 l2).push { cls := .type "tuple", data := .seq #[.none, .none] }
abbrev zh5 (st b1 b2 : Bool) (h : Heap) (l1 l2 : Addr) : Heap := (zh4 b1 b2 h l1 l2).push { cls := .type "zip", data := .fields #[.none, .bool false, .bool st, .ref (zh2 b1 b2 h l1 l2).objs.size, .ref (zh3 b1 b2 h l1 l2).objs.size] }
theorem it_seq {prog : Program} {w : World} {A : Around} {E : Value → Shared → Prop} {s : Shared} {b : Bool} {l : Addr} {xs : Array Value} {Q : Value → Shared → Prop} (r : SA b s.heap l xs)
    (h : Q (.ref s.heap.objs.size) { s with heap := s.heap.push (ito b l) }) : wpAny (model prog w) A (pyIter (.ref l)) Q E s := by
  cases b
  · exact wpAny_pyIter_tuple r h
  · exact wpAny_pyIter_list r h
def zkw (st : Bool) : List (Str × Value) := match st with
  | true => [(Str.ofString "strict", .bool true)]
  | false => []
theorem zn_meets (st b1 b2 : Bool) (l1 l2 : Addr) (xs ys : Array Value) :
    Meets (Builtin.«zip.__new__» ⟨[.type "zip", .ref l1, .ref l2], zkw st⟩) (fun _ R s => SA b1 s.heap l1 xs ∧ SA b2 s.heap l2 ys ∧
      R (.ok (.ret (.ref (zh4 b1 b2 s.heap l1 l2).objs.size))) { s with heap := zh5 st b1 b2 s.heap l1 l2 }) :=
  .of_wp fun prog w A R s h => by
    obtain ⟨hp, g, d, tk, os⟩ := s; obtain ⟨r1, r2, h⟩ := h
    have hsub := sub_zip
    have y1 : SA b1 (Shared.heap ⟨hp, g, d, tk, os⟩) l1 xs := r1
    have y2 : SA b2 (Shared.heap ⟨hp.push (ito b1 l1), g, d, tk, os⟩) l2 ys := by
      cases b2
      · exact Heap.IsTuple.push r2 _
      · exact Heap.IsList.push r2 _
    cases st
    · unfold zkw
      wp_walk using it_seq y1, it_seq y2
      exact ⟨_, rfl, h⟩
    · unfold zkw
      wp_walk using it_seq y1, it_seq y2
      exact ⟨_, rfl, h⟩
section
variable {prog : Program} {w : World} {A : Around} {E : Value → Shared → Prop} {s : Shared}
theorem zk_type (st : Bool) (a b : Value) : checkTypeCall "zip" ⟨[a, b], zkw st⟩ = pure () := by cases st <;> kernel_rfl
theorem zk_new (st : Bool) (a b : Value) : checkBuiltinCall "zip.__new__" ⟨[.type "zip", a, b], zkw st⟩ = pure () := by cases st <;> kernel_rfl
theorem zk_init (st : Bool) (a b c : Value) : argsOk "object.__init__" ⟨[a, b, c], zkw st⟩ := by
  cases st
  · exact F.args_object_init_3 a b c
  · unfold argsOk; kernel_rfl
theorem call_zo {st b1 b2 : Bool} {l1 l2 : Addr} {xs ys : Array Value} {Q : Value → Shared → Prop} (r1 : SA b1 s.heap l1 xs) (r2 : SA b2 s.heap l2 ys)
    (h : ∀ h', ZO st h' (s.heap.objs.size + 4) (s.heap.objs.size + 2) (s.heap.objs.size + 3) .none → IsPair h' (s.heap.objs.size + 2) (.ref s.heap.objs.size) (.ref (s.heap.objs.size + 1)) →
      IsPair h' (s.heap.objs.size + 3) .none .none → IA b1 h' s.heap.objs.size l1 0 → IA b2 h' (s.heap.objs.size + 1) l2 0 → h'.objs.size = s.heap.objs.size + 5 →
      (∀ c o, s.heap.get? c = some o → h'.get? c = some o) → Q (.ref (s.heap.objs.size + 4)) { s with heap := h' }) :
    wpAny (model prog w) A (call (.type "zip") [.ref l1, .ref l2] (zkw st)) Q E s := by
  refine callType_newKw F.called_zip (by decide) (zk_type st _ _) (zk_new st _ _) (fun obj => zk_init st obj _ _) F.entry_zip_new (zn_meets st b1 b2 l1 l2 xs ys) ⟨r1, r2, ?_⟩
  have n1 : (zh1 b1 s.heap l1).objs.size = s.heap.objs.size + 1 := Heap.size_push ..
  have n2 : (zh2 b1 b2 s.heap l1 l2).objs.size = s.heap.objs.size + 2 := by rw [Heap.size_push, n1]
  have n3 : (zh3 b1 b2 s.heap l1 l2).objs.size = s.heap.objs.size + 3 := by rw [Heap.size_push, n2]
  have n4 : (zh4 b1 b2 s.heap l1 l2).objs.size = s.heap.objs.size + 4 := by rw [Heap.size_push, n3]
  have n5 : (zh5 st b1 b2 s.heap l1 l2).objs.size = s.heap.objs.size + 5 := by rw [Heap.size_push, n4]
  have u5 : (zh5 st b1 b2 s.heap l1 l2).get? (zh4 b1 b2 s.heap l1 l2).objs.size = some _ := Heap.get?_push_size _ rfl
  have u4 : (zh5 st b1 b2 s.heap l1 l2).get? (zh3 b1 b2 s.heap l1 l2).objs.size = some _ := Heap.get?_push_of_some _ (Heap.get?_push_size _ rfl)
  have u3 : (zh5 st b1 b2 s.heap l1 l2).get? (zh2 b1 b2 s.heap l1 l2).objs.size = some _ := Heap.get?_push_of_some _ (Heap.get?_push_of_some _ (Heap.get?_push_size _ rfl))
  have u2 : (zh5 st b1 b2 s.heap l1 l2).get? (zh1 b1 s.heap l1).objs.size = some (ito b2 l2) := Heap.get?_push_of_some _ (Heap.get?_push_of_some _ (Heap.get?_push_of_some _ (Heap.get?_push_size _ (by cases b2 <;> rfl))))
  have u1 : (zh5 st b1 b2 s.heap l1 l2).get? s.heap.objs.size = some (ito b1 l1) := Heap.get?_push_of_some _ (Heap.get?_push_of_some _ (Heap.get?_push_of_some _ (Heap.get?_push_of_some _ (Heap.get?_push_size _ (by cases b1 <;> rfl)))))
  show _ ∧ _
  rw [n2, n3, n4] at u5
  rw [n1, n2] at u3
  rw [n3] at u4
  rw [n1] at u2
  rw [n4]
  exact ⟨⟨_, u5, rfl⟩, h _ u5 u3 u4 (by cases b1 <;> exact ⟨_, u1, rfl, rfl⟩) (by cases b2 <;> exact ⟨_, u2, rfl, rfl⟩) n5 fun c o x =>
    Heap.get?_push_of_some _ (Heap.get?_push_of_some _ (Heap.get?_push_of_some _ (Heap.get?_push_of_some _ (Heap.get?_push_of_some _ x))))⟩
end
end Pv

namespace Pv
open PySem PySem.Spec PyProof.Rows L2
def SqG (b : Bool) (K : PySem.W.Frag) (H : Hp) (a : Addr) (xs : List V) : Prop := match b with
  | true => SqL K H a xs
  | false => SqT K H a xs
section
variable {X : Cx} {pins : List (Addr × Obj)} {σ : L2.St} {H : Hp} {s : Shared} {b : Bool} {a : Addr} {xs ys : List V}
theorem sg_heap (I : Inv X pins σ H s) (h : SqG b X.K H a xs) : ∃ its, Vals xs its ∧ SA b s.heap a its.toArray ∧ xs.length ≤ sizeLine := by
  cases b
  · obtain ⟨its, rv, p, z⟩ := I.tuple h; exact ⟨its, rv, p, z⟩
  · obtain ⟨its, rv, p, z⟩ := I.list h; exact ⟨its, rv, p.isList, z⟩
theorem sg_inj (I : Inv X pins σ H s) (h : SqG b X.K H a xs) (h' : SqG b X.K H a ys) : xs = ys := by
  cases b
  · exact I.tuple_inj h h'
  · exact I.list_inj h h'
theorem SA.lt {h : Heap} {xs : Array Value} (r : SA b h a xs) : a < h.objs.size := by
  cases b
  · obtain ⟨o, e, _⟩ := r; exact Heap.lt_size e
  · obtain ⟨o, e, _⟩ := r; exact Heap.lt_size e
end
def ItG (b1 b2 : Bool) (K : PySem.W.Frag) (a c : Addr) : L2.It :=
  ⟨fun i H => ∃ (xs ys : List V) (x y : V), SqG b1 K H a xs ∧ SqG b2 K H c ys ∧ xs[i]? = some x ∧ ys[i]? = some y,
    fun i H v H' => ∃ T x y, v = .ref T ∧ H T = none ∧ H' = upd H T (.tup [x, y]) ∧ (∀ xs, SqG b1 K H a xs → xs[i]? = some x) ∧ ∀ ys, SqG b2 K H c ys → ys[i]? = some y,
    fun i H => ∃ xs ys : List V, SqG b1 K H a xs ∧ SqG b2 K H c ys ∧ xs.length ≤ i ∧ ys.length ≤ i⟩
theorem turn_zo {st b1 b2 : Bool} {P : Program} {w : World} {K : PySem.W.Frag} {elts : List Expr} {kk : Nat} {tpos : Pos} {a b z TI TO i1 i2 : Addr} (D : ZipApart z TI TO i1 i2 a b) :
    Turn P w K (.Tuple elts kk tpos) (ItG b1 b2 K a b) [z, TI, TO, i1, i2] z (fun i h => ZO st h z TI TO .none ∧ IsPair h TI (.ref i1) (.ref i2) ∧ (∃ x y, IsPair h TO x y) ∧ IA b1 h i1 a i ∧ IA b2 h i2 b i) where
  mem := by simp
  obj := fun i h ts c hc => by
    obtain ⟨qz, qI, ⟨x, y, qO⟩, q1, q2⟩ := ts
    obtain ⟨o1, e1, f1, d1⟩ := q1.obj
    obtain ⟨o2, e2, f2, d2⟩ := q2.obj
    have e' : c = z ∨ c = TI ∨ c = TO ∨ c = i1 ∨ c = i2 := by simpa using hc
    rcases e' with q | q | q | q | q
    · rw [q]; exact ⟨_, qz, fun v q => nomatch q⟩
    · rw [q]; exact ⟨_, qI, fun v q => nomatch q⟩
    · rw [q]; exact ⟨_, qO, fun v q => nomatch q⟩
    · rw [q]; exact ⟨o1, e1, fun v q => by rw [d1] at q; cases q⟩
    · rw [q]; exact ⟨o2, e2, fun v q => by rw [d2] at q; cases q⟩
  keep := fun i h h' ts k => by
    obtain ⟨qz, qI, ⟨x, y, qO⟩, q1, q2⟩ := ts
    exact ⟨k z (by simp) _ qz, k TI (by simp) _ qI, ⟨x, y, k TO (by simp) _ qO⟩, q1.put fun o q => k i1 (by simp) o q, q2.put fun o q => k i2 (by simp) o q⟩
  item := by
    intro X hP hw hK hc i pins s σ H E I hf ts hg
    subst hP hw hK
    obtain ⟨qz, qI, ⟨x0, y0, qO⟩, q1, q2⟩ := ts
    obtain ⟨xs, ys, x, y, hqx, hqy, hx, hy⟩ := hg
    obtain ⟨its, rv, p, _⟩ := sg_heap I hqx
    obtain ⟨its2, rv2, p2, _⟩ := sg_heap I hqy
    obtain ⟨u, hu, ru⟩ := rv.get hx
    obtain ⟨u2, hu2, ru2⟩ := rv2.get hy
    have lz : z < s.heap.objs.size := Heap.lt_size qz
    refine pz_item D qz qI qO q1 q2 p p2 (x := u) (y := u2) (by simpa using hu) (by simpa using hu2) fun h' z' o' k1 k2 hT hsz hk => ?_
    refine ⟨_, rfl, go_zip (s := { s with heap := h' }) z' fun g z'' sb => ?_⟩
    have hT2 : g.get? s.heap.objs.size = some { cls := .type "tuple", data := .seq #[u, u2] } := (sb.2 _ (Nat.ne_of_gt lz)).trans hT
    have new : ObjOk X.prog X.w (upd H s.heap.objs.size (.tup [x, y])) g s.heap.objs.size (.tup [x, y]) :=
      ⟨by show 2 ≤ sizeLine; decide, [u, u2], .cons ru (.cons ru2 .nil), ⟨_, hT2, rfl, _, rfl⟩⟩
    have I1 : Inv X pins σ (upd H s.heap.objs.size (.tup [x, y])) { s with heap := g } :=
      I.turnedNew (t' := s.toks) (ch := [z, TI, TO, i1, i2]) (fun c o hb q => (sb.2 c (fun q' => hb (by simp [q']))).trans (hk c o (fun q' => hb (by simp [q'])) (fun q' => hb (by simp [q'])) (fun q' => hb (by simp [q'])) (fun q' => hb (by simp [q'])) q)) hf (Nat.le_refl _) new
    refine ⟨.ref s.heap.objs.size, _, I1, rfl, ⟨_, x, y, rfl, I.hok.fresh (Nat.le_refl _), rfl, fun l hl => by rw [sg_inj I hl hqx]; exact hx, fun l hl => by rw [sg_inj I hl hqy]; exact hy⟩, ⟨z'', ?_, ⟨u, u2, ?_⟩, ?_, ?_⟩, fun c hcm => ?_⟩
    · exact (sb.2 _ D.TIz).trans (hk _ _ D.TIz D.TITO D.TIi1 D.TIi2 qI)
    · exact (sb.2 _ D.TOz).trans o'
    · exact k1.put fun o q => (sb.2 _ D.i1z).trans q
    · exact k2.put fun o q => (sb.2 _ D.i2z).trans q
    · have hlt : c < s.heap.objs.size := by
        have e' : c = z ∨ c = TI ∨ c = TO ∨ c = i1 ∨ c = i2 := by simpa using hcm
        rcases e' with q | q | q | q | q
        · rw [q]; exact lz
        · rw [q]; exact Heap.lt_size qI
        · rw [q]; exact Heap.lt_size qO
        · rw [q]; exact q1.lt
        · rw [q]; exact q2.lt
      rw [upd_ne (Nat.ne_of_lt hlt)]
      exact (hf c hcm).1
  done := by
    intro X hP hw hK hc i pins s σ H E I hf ts hg
    subst hP hw hK
    obtain ⟨qz, qI, ⟨x0, y0, qO⟩, q1, q2⟩ := ts
    obtain ⟨xs, ys, hqx, hqy, n1, n2⟩ := hg
    obtain ⟨its, rv, p, _⟩ := sg_heap I hqx
    obtain ⟨its2, rv2, p2, _⟩ := sg_heap I hqy
    have l1 := rv.length
    have l2 := rv2.length
    exact pz_end (I.ok.hd hc) D qz qI qO q1 q2 p p2 (by simp; omega) (by simp; omega) fun h' hk => ⟨rfl, I.turnedL (t' := s.toks) (ch := [z, TI, TO, i1, i2]) (fun c o hb q =>
      hk c o (fun q' => hb (by simp [q'])) (fun q' => hb (by simp [q'])) (fun q' => hb (by simp [q'])) (fun q' => hb (by simp [q'])) q) hf⟩
  self := fun A i s Q E ts h => it_zip ts.1 h
def iZipG (K : PySem.W.Frag) (ta : TA) : TI := fun σ H R => ta σ H fun vs H1 => ∃ b1 b2 a c xs ys, vs = [.ref a, .ref c] ∧ SqG b1 K H1 a xs ∧ SqG b2 K H1 c ys ∧ R (ItG b1 b2 K a c) H1
section
variable {M : Model} {A : Around} {E : Value → Shared → Prop} {s : Shared} {env : PySem.Env}
theorem cw_typeKw {pos : Pos} {T : String} {first : List Value} {args : List (Bool × Sem Value)} {keywords : List (Option Str × Sem Value)} {Q : Value → Shared → Prop} (hp : args.any (·.1) = false) (hk : keywords.any (·.1.isNone) = false)
    (h : wpAny M A (evalArgs (.type T) true args keywords) (fun a s₁ => wpAny M A (call (.type T) (first ++ a.pos) a.kw) Q E s₁) E s) : wpAny M A (callWith pos (.type T) first args keywords) Q E s := by
  unfold callWith
  refine wpAny_bind (wpAny_holding (wpAny_mono h (fun a s1 h1 => wpAny_bind (wpAny_standAt ?_)) fun _ _ x => x))
  simp only [hp, hk, Bool.or_false]
  exact wpAny_bind (wpAny_pure (wpAny_bind (wpAny_mono h1 (fun r s2 hr => wpAny_bind (wpAny_holding (wpAny_point (wpAny_pure hr)))) fun _ _ x => x)))
theorem cw_typeK {pos : Pos} {T : String} {e : Expr} {rest : List Expr} {kws : List Keyword} {Q : Value → Shared → Prop}
    (h : wpAny M A (spliced (backTo pos (starEach (e :: rest) env))) (fun vs s₁ => wpAny M A (evalAll ((backToKw pos (keywordEach kws env)).map (·.2)))
      (fun kvs s₂ => wpAny M A (call (.type T) vs (((backToKw pos (keywordEach kws env)).filterMap (·.1)).zip kvs)) Q E s₂) E s₁) E s)
    (he : backTo pos (starEach (e :: rest) env) = (false, eval e env) :: backTo pos (starEach rest env)) (hp : (backTo pos (starEach (e :: rest) env)).any (·.1) = false)
    (hall : (backToKw pos (keywordEach kws env)).all (·.1.isSome) = true) (hk : (backToKw pos (keywordEach kws env)).any (·.1.isNone) = false) :
    wpAny M A (callWith pos (.type T) [] (backTo pos (starEach (e :: rest) env)) (backToKw pos (keywordEach kws env))) Q E s := by
  refine cw_typeKw hp hk ?_
  rw [he] at h ⊢
  exact evalArgs_kwB hall h
end
section
variable {X : Cx} {e e2 : Expr} {ta : TA} {p pos tpos kpos vpos : Pos} {elts : List Expr} {kk kn : Nat}
theorem zip_goes {st : Bool} {pins : List (Addr × Obj)} {s1 : Shared} {σ : L2.St} {H1 : Hp} {R : L2.It → Hp → Prop} {vs : List V} {us : List Value} (I1 : Inv X pins σ H1 s1) (r1 : Vals vs us)
    (q1 : ∃ b1 b2 a c xs ys, vs = [.ref a, .ref c] ∧ SqG b1 X.K H1 a xs ∧ SqG b2 X.K H1 c ys ∧ R (ItG b1 b2 X.K a c) H1) :
    wpAny (model X.prog X.w) X.A (call (.type "zip") us (zkw st)) (fun v s2 => wpAny (model X.prog X.w) X.A (pyIter v) (fun itv s3 => PIE X pins σ (.Tuple elts kk tpos) R itv s3) X.xe s2) X.xe s1 := by
  obtain ⟨b1, b2, a, c, xs, ys, rfl, hqx, hqy, q⟩ := q1
  cases r1 with
  | cons r rr =>
    cases rr with
    | cons r' rr =>
      cases rr
      cases r
      cases r'
      have fresh : ∀ c, c ∈ [s1.heap.objs.size + 4, s1.heap.objs.size + 2, s1.heap.objs.size + 3, s1.heap.objs.size, s1.heap.objs.size + 1] → FpOk X pins H1 c := fun c hcm => by
        have hle : s1.heap.objs.size ≤ c := by
          simp only [List.mem_cons, List.not_mem_nil, or_false] at hcm
          rcases hcm with z | z | z | z | z
          · rw [z]; exact Nat.le_add_right _ _
          · rw [z]; exact Nat.le_add_right _ _
          · rw [z]; exact Nat.le_add_right _ _
          · rw [z]; exact Nat.le_refl _
          · rw [z]; exact Nat.le_add_right _ _
        exact I1.fpOk hle (I1.hok.fresh hle)
      obtain ⟨its, rv, p1, _⟩ := sg_heap I1 hqx
      obtain ⟨its2, rv2, p2, _⟩ := sg_heap I1 hqy
      refine call_zo (st := st) p1 p2 fun h' hz hI hO k1 k2 hsz hk => it_zip hz ?_
      have I2 : Inv X pins σ H1 { s1 with heap := h' } := I1.kept (t' := s1.toks) hk
      exact ⟨s1.heap.objs.size + 4, [s1.heap.objs.size + 4, s1.heap.objs.size + 2, s1.heap.objs.size + 3, s1.heap.objs.size, s1.heap.objs.size + 1], _, _, H1, rfl, I2, turn_zo (PySem.W.ktu_apart s1.heap.objs.size a c p1.lt p2.lt), ⟨hz, hI, ⟨_, _, hO⟩, k1, k2⟩, fresh, q⟩
theorem pi_zipG (hg : Gl X "zip") (hm : X.mg "zip" = none) (ha : PA X [e, e2] ta) (hs : starEach [e, e2] X.env = (false, eval e X.env) :: starEach [e2] X.env) (hpl : (backTo pos (starEach [e2] X.env)).any (·.1) = false) :
    PI X (.Tuple elts kk tpos) (.Call (.Name "zip" p) [e, e2] [] pos) (iZipG X.K ta) := by
  refine ⟨fun pins s σ H R I h => ?_⟩
  exact Call_ (ld_blt I hg hm PyProof.Rows.boot_zip (PyProof.Rows.callWith_type1 (thn (ha.run pos pins s σ H _ I h) fun us s1 ⟨vs, H1, I1, r1, q1⟩ => zip_goes (st := false) I1 r1 q1) hs hpl))
theorem pi_zipS (hg : Gl X "zip") (hm : X.mg "zip" = none) (ha : PA X [e, e2] ta) (hs : starEach [e, e2] X.env = (false, eval e X.env) :: starEach [e2] X.env) (hpl : (backTo pos (starEach [e, e2] X.env)).any (·.1) = false) :
    PI X (.Tuple elts kk tpos) (.Call (.Name "zip" p) [e, e2] [⟨some "strict", .Constant (.bool true) kn vpos, kpos⟩] pos) (iZipG X.K ta) := by
  refine ⟨fun pins s σ H R I h => ?_⟩
  refine wpAny_Call_Name_kw (ld_blt I hg hm PyProof.Rows.boot_zip ?_)
  refine cw_typeK (thn (ha.run pos pins s σ H _ I h) fun us s1 ⟨vs, H1, I1, r1, q1⟩ => ?_) (by rw [hs]; rfl) hpl rfl rfl
  refine kws_cons ?_
  refine wpAny_Constant_bool ?_
  exact kws_nil (zip_goes (st := true) I1 r1 q1)
end
end Pv

/-! ## enumerate of a list or a tuple -/
namespace Pv
open PySem PySem.Spec PyProof.Rows L2
open PySem.Sem (wp)
abbrev eno (it : Addr) : Obj := { cls := .type "enumerate", data := .fields #[.none, .bool false, .ref it, rawInt 0, .none, .none] }
theorem en_meets (b : Bool) (l : Addr) (xs : Array Value) :
    Meets (Builtin.«enumerate.__new__» ⟨[.type "enumerate", .ref l], []⟩) (fun _ R s => SA b s.heap l xs ∧
      R (.ok (.ret (.ref (s.heap.push (ito b l)).objs.size))) { s with heap := (s.heap.push (ito b l)).push (eno s.heap.objs.size) }) :=
  .of_wp fun prog w A R s h => by
    obtain ⟨hp, g, d, tk, os⟩ := s; obtain ⟨r1, h⟩ := h
    have hsub := sub_enumerate
    have y1 : SA b (Shared.heap ⟨hp, g, d, tk, os⟩) l xs := r1
    wp_walk
    refine wpAny_stack_any fun st => wpAny_pure ?_
    split
    · rename_i c _ _ _ _ _
      cases (c == Value.type "enumerate")
      · wp_walk using it_seq y1
        exact ⟨_, rfl, h⟩
      · wp_walk using it_seq y1
        exact ⟨_, rfl, h⟩
    · wp_walk using it_seq y1
      exact ⟨_, rfl, h⟩
section
variable {prog : Program} {w : World} {A : Around} {E : Value → Shared → Prop} {s : Shared}
theorem call_en {b : Bool} {l : Addr} {xs : Array Value} {Q : Value → Shared → Prop} (r1 : SA b s.heap l xs)
    (h : ∀ h', IsEnum h' (s.heap.objs.size + 1) s.heap.objs.size 0 .none → IA b h' s.heap.objs.size l 0 → h'.objs.size = s.heap.objs.size + 2 →
      (∀ c o, s.heap.get? c = some o → h'.get? c = some o) → Q (.ref (s.heap.objs.size + 1)) { s with heap := h' }) :
    wpAny (model prog w) A (call (.type "enumerate") [.ref l]) Q E s := by
  refine callType_new F.called_enumerate (by decide) (F.typeCall_enumerate_1 _) (F.newCall_enumerate_1 _) (fun obj => F.args_object_init_2 obj _) F.entry_enumerate_new (en_meets b l xs) ⟨r1, ?_⟩
  have n1 : (s.heap.push (ito b l)).objs.size = s.heap.objs.size + 1 := Heap.size_push ..
  have he : ((s.heap.push (ito b l)).push (eno s.heap.objs.size)).get? (s.heap.push (ito b l)).objs.size = some (eno s.heap.objs.size) := Heap.get?_push_size _ rfl
  have hi : ((s.heap.push (ito b l)).push (eno s.heap.objs.size)).get? s.heap.objs.size = some (ito b l) := Heap.get?_push_of_some _ (Heap.get?_push_size _ (by cases b <;> rfl))
  show _ ∧ _
  rw [n1] at he ⊢
  exact ⟨⟨_, he, rfl⟩, h _ he (by cases b <;> exact ⟨_, hi, rfl, rfl⟩) (by rw [Heap.size_push, n1]) fun c o x => Heap.get?_push_of_some _ (Heap.get?_push_of_some _ x)⟩
theorem draws_en {b : Bool} {it l : Addr} {xs : Array Value} (hh : A.handled = none) (hne : l ≠ it) : Draws prog w A it [it, l] xs.size (fun i v => xs[i]? = some v) (fun i h => IA b h it l i ∧ SA b h l xs) := by
  cases b
  · exact Draws.tuple hh it l hne xs
  · exact Draws.list hh it l hne xs
theorem en_end {b : Bool} {e it l : Addr} {i : Nat} {c : Int} {xs : Array Value} {old : Value} {Q : Option Value → Shared → Prop} (hh : A.in1.handled = none) (he : IsEnum s.heap e it c old) (hi : IA b s.heap it l i) (hl : SA b s.heap l xs) (hx : xs[i]? = none)
    (hQ : ∀ h', Heap.ExtBut it s.heap h' → Q none { s with heap := h' }) : wpAny (model prog w) A (pyNext (.ref e)) Q E s := by
  have ty : s.TypeIs (.ref e) "enumerate" := ⟨_, he, rfl⟩
  unfold pyNext
  refine wpAny_bind (wpAny_attempt (wpAny_callSpecial?_slot (name := Str.ofString "__next__") ty F.slot_enumerate_next
    (wpAny_call_entry F.slot_enumerate_next ty F.entry_enumerate_next ?_ (F.args_enumerate_next_1 _))))
  show wpAny _ _ (field (.ref e) 2 >>= _) _ _ _
  refine wpAny_bind (wpAny_field he rfl (x := .ref it) rfl ?_)
  refine wpAny_bind (nx_end hh hi hl hx fun h' x he' hx' => ?_)
  obtain ⟨o, ho, hc⟩ := hx'
  refine wpAny_bind (wpAny_isInstance (T := "StopIteration") (b := true) ⟨o, ho, hc⟩ isSubtype_stop ?_)
  exact wpAny_pure (hQ _ he')
end
/-- the row at a as it stands at each turn, each item in a new pair -/
def IteG (b : Bool) (K : PySem.W.Frag) (a : Addr) : L2.It :=
  ⟨fun i H => ∃ (xs : List V) (x : V), SqG b K H a xs ∧ xs[i]? = some x, fun i H v H' => ∃ T x, v = .ref T ∧ H T = none ∧ H' = upd H T (.tup [.int (i : Nat), x]) ∧ ∀ xs, SqG b K H a xs → xs[i]? = some x, fun i H => ∃ xs : List V, SqG b K H a xs ∧ xs.length ≤ i⟩
theorem turn_en {b : Bool} {P : Program} {w : World} {K : PySem.W.Frag} {elts : List Expr} {kk : Nat} {tpos : Pos} (a e it : Addr) :
    Turn P w K (.Tuple elts kk tpos) (IteG b K a) [e, it] e (fun i h => (∃ old, IsEnum h e it ((i : Nat) : Int) old) ∧ IA b h it a i ∧ e ≠ it ∧ a ≠ it ∧ a ≠ e) where
  mem := by simp
  obj := fun i h st c hc => by
    obtain ⟨⟨old, he⟩, hi, _⟩ := st
    obtain ⟨o, ho, f, hd⟩ := hi.obj
    have e' : c = e ∨ c = it := by simpa using hc
    rcases e' with z | z
    · rw [z]; exact ⟨_, he, fun v q => nomatch q⟩
    · rw [z]; exact ⟨o, ho, fun v q => by rw [hd] at q; cases q⟩
  keep := fun i h h' st k => let ⟨⟨old, he⟩, hi, n1, n2, n3⟩ := st; ⟨⟨old, k e (by simp) _ he⟩, hi.put fun o q => k it (by simp) o q, n1, n2, n3⟩
  item := by
    intro X hP hw hK hc i pins s σ H E I hf st hg
    subst hP hw hK
    obtain ⟨⟨old, he⟩, hit, hne, n2, n3⟩ := st
    obtain ⟨xs, x, hq, hx⟩ := hg
    obtain ⟨its, rv, p, hz⟩ := sg_heap I hq
    obtain ⟨u, hu, ru⟩ := rv.get hx
    have hel : e < s.heap.objs.size := Heap.lt_size he
    have hil : it < s.heap.objs.size := hit.lt
    have hlt : i < its.toArray.size := by
      have := (List.getElem?_eq_some_iff.mp hu).1
      simpa using this
    have hh : X.A.in1.handled = none := I.ok.hd hc
    refine wpAny_pyNext_enum_itemC (draws_en (b := b) (xs := its.toArray) hh n2) he ⟨hit, p⟩ hlt hne (by simp; exact ⟨hne, fun z => n3 z.symm⟩) fun y h' tk hy ho hst' hT hsz hk => ?_
    obtain rfl : u = y := by
      have hy' : its.toArray[i]? = some y := hy
      rw [show its.toArray[i]? = its[i]? by simp, hu] at hy'
      exact Option.some.inj hy'
    refine ⟨_, rfl, wpAny_letOwnedTupleGo_enum (s := { s with heap := h', toks := tk + 1 }) ho fun h'' he' sb => ?_⟩
    have hT2 : h''.get? s.heap.objs.size = some { cls := .type "tuple", data := .seq #[.int i tk, u] } := (sb.2 _ (Nat.ne_of_gt hel)).trans hT
    have new : ObjOk X.prog X.w (upd H s.heap.objs.size (.tup [.int (i : Nat), x])) h'' s.heap.objs.size (.tup [.int (i : Nat), x]) :=
      ⟨by show 2 ≤ sizeLine; decide, [.int i tk, u], .cons ⟨_, rfl⟩ (.cons ru .nil), ⟨_, hT2, rfl, _, rfl⟩⟩
    have I1 : Inv X pins σ (upd H s.heap.objs.size (.tup [.int (i : Nat), x])) { s with heap := h'', toks := tk + 1 } :=
      I.turnedNew (ch := [e, it]) (fun b ob hb q => (sb.2 b (fun z => hb (by simp [z]))).trans (hk b ob (fun z => hb (by simp [z])) (fun z => hb (by simp [z])) q)) hf (Nat.le_refl _) new
    refine ⟨.ref s.heap.objs.size, _, I1, rfl, ⟨_, x, rfl, I.hok.fresh (Nat.le_refl _), rfl, fun ys hy => by rw [sg_inj I hy hq]; exact hx⟩, ⟨⟨u, ?_⟩, hst'.1.put fun o q => (sb.2 it (Ne.symm hne)).trans q, hne, n2, n3⟩, fun c hcm => ?_⟩
    · have e1 : ((i + 1 : Nat) : Int) = (i : Int) + 1 := by omega
      rw [e1]; exact he'
    · have hb' : c < s.heap.objs.size := by
        have e' : c = e ∨ c = it := by simpa using hcm
        rcases e' with z | z
        · rw [z]; exact hel
        · rw [z]; exact hil
      rw [upd_ne (Nat.ne_of_lt hb')]
      exact (hf c hcm).1
  done := by
    intro X hP hw hK hc i pins s σ H E I hf st hg
    subst hP hw hK
    obtain ⟨⟨old, he⟩, hit, hne, n2, n3⟩ := st
    obtain ⟨xs, hq, hx⟩ := hg
    obtain ⟨its, rv, p, hz⟩ := sg_heap I hq
    obtain ⟨f0, f1, f2, f3, f4, f5⟩ := hf it (by simp)
    have hl := rv.length
    have hh : X.A.in1.handled = none := I.ok.hd hc
    exact en_end hh he hit p (by simp; omega) fun h' eb => ⟨rfl, I.turned (t' := s.toks) (fun c o hb q => eb c o hb q) f0 f1 f3 f4 f5⟩
  self := fun A i s Q E st h => let ⟨⟨_, he⟩, _⟩ := st; wpAny_pyIter_enum he h
def iEnumG (K : PySem.W.Frag) (ta : TA) : TI := fun σ H R => ta σ H fun vs H1 => ∃ b a xs, vs = [.ref a] ∧ SqG b K H1 a xs ∧ R (IteG b K a) H1
theorem pi_enumG {X : Cx} {e : Expr} {ta : TA} {p pos tpos : Pos} {elts : List Expr} {kk : Nat} (hg : Gl X "enumerate") (hm : X.mg "enumerate" = none) (ha : PA X [e] ta) (hs : starEach [e] X.env = (false, eval e X.env) :: starEach [] X.env) :
    PI X (.Tuple elts kk tpos) (.Call (.Name "enumerate" p) [e] [] pos) (iEnumG X.K ta) := by
  refine ⟨fun pins s σ H R I h => ?_⟩
  refine Call_ (ld_blt I hg hm boot_enumerate (PyProof.Rows.callWith_type1 (thn (ha.run pos pins s σ H _ I h) fun us s1 ⟨vs, H1, I1, r1, q1⟩ => ?_) hs rfl))
  obtain ⟨b, a, xs, ex, hq, q⟩ := q1
  subst ex
  cases r1 with
  | cons r rr =>
    cases rr
    cases r
    obtain ⟨its, rv, p', hz⟩ := sg_heap I1 hq
    have hal := p'.lt
    refine call_en p' fun h' he hit hsz hk => wpAny_pyIter_enum he ?_
    have I2 : Inv X pins σ H1 { s1 with heap := h' } := I1.kept (t' := s1.toks) hk
    refine ⟨s1.heap.objs.size + 1, [s1.heap.objs.size + 1, s1.heap.objs.size], _, _, H1, rfl, I2, turn_en a (s1.heap.objs.size + 1) s1.heap.objs.size, ⟨⟨.none, he⟩, hit, Nat.succ_ne_self _, Nat.ne_of_lt hal, Nat.ne_of_lt (Nat.lt_succ_of_lt hal)⟩, fun c hc => ?_, q⟩
    have e' : c = s1.heap.objs.size + 1 ∨ c = s1.heap.objs.size := by simpa using hc
    have hle : s1.heap.objs.size ≤ c := by
      rcases e' with z | z
      · rw [z]; exact Nat.le_add_right _ _
      · rw [z]; exact Nat.le_refl _
    exact I1.fpOk hle (I1.hok.fresh hle)
end Pv

namespace Pv
open PySem L2
variable [TabT]

theorem sortD_perm (ns : List Int) : (sortD ns).Perm ns := List.mergeSort_perm _ _
theorem sortD_sorted (ns : List Int) : (sortD ns).Pairwise (· ≤ ·) := by
  have := List.pairwise_mergeSort (le := fun a b : Int => decide (a ≤ b)) (by intro a b c; simp; omega) (by intro a b; simp; omega) ns
  exact this.imp (by intro a b h; simpa using h)
theorem least_ok : ∀ {ns : List Int} {k : Int}, leastD ns = some k → k ∈ ns ∧ ∀ y ∈ ns, k ≤ y
  | [], k, h => by cases h
  | n :: r, k, h => by
    simp only [leastD, Option.some.injEq] at h
    subst h
    suffices ∀ (r : List Int) (n : Int), r.foldl (fun a b => if b < a then b else a) n ∈ n :: r ∧ ∀ y ∈ n :: r, r.foldl (fun a b => if b < a then b else a) n ≤ y from this r n
    intro r
    induction r with
    | nil => intro n; simp
    | cons x r ih =>
      intro n
      rw [List.foldl_cons]
      obtain ⟨h1, h2⟩ := ih (if x < n then x else n)
      refine ⟨?_, ?_⟩
      · rcases List.mem_cons.mp h1 with e | e
        · rw [e]; split <;> simp
        · simp [e]
      · intro y hy
        have h3 := h2 (if x < n then x else n) List.mem_cons_self
        rcases List.mem_cons.mp hy with rfl | hy
        · split at h3 <;> rename_i q <;> simp only [q, if_true, if_false] at h3 ⊢ <;> omega
        · rcases List.mem_cons.mp hy with rfl | hy
          · split at h3 <;> rename_i q <;> simp only [q, if_true, if_false] at h3 ⊢ <;> omega
          · exact h2 y (List.mem_cons_of_mem _ hy)
theorem most_ok : ∀ {ns : List Int} {k : Int}, mostD ns = some k → k ∈ ns ∧ ∀ y ∈ ns, y ≤ k
  | [], k, h => by cases h
  | n :: r, k, h => by
    simp only [mostD, Option.some.injEq] at h
    subst h
    suffices ∀ (r : List Int) (n : Int), r.foldl (fun a b => if a < b then b else a) n ∈ n :: r ∧ ∀ y ∈ n :: r, y ≤ r.foldl (fun a b => if a < b then b else a) n from this r n
    intro r
    induction r with
    | nil => intro n; simp
    | cons x r ih =>
      intro n
      rw [List.foldl_cons]
      obtain ⟨h1, h2⟩ := ih (if n < x then x else n)
      refine ⟨?_, ?_⟩
      · rcases List.mem_cons.mp h1 with e | e
        · rw [e]; split <;> simp
        · simp [e]
      · intro y hy
        have h3 := h2 (if n < x then x else n) List.mem_cons_self
        rcases List.mem_cons.mp hy with rfl | hy
        · split at h3 <;> rename_i q <;> simp only [q, if_true, if_false] at h3 ⊢ <;> omega
        · rcases List.mem_cons.mp hy with rfl | hy
          · split at h3 <;> rename_i q <;> simp only [q, if_true, if_false] at h3 ⊢ <;> omega
          · exact h2 y (List.mem_cons_of_mem _ hy)
theorem lim_eq : lim = sizeLine := by rw [sizeLine_eq]; rfl

/-- what is wanted of a value; of a new list -/
def PV (K : PySem.W.Frag) (Z : Addr → Prop) (ph : List Addr) (H : Hp) (m' : M) (z : D) (Q : VK) : Prop :=
  ∀ ph' H' u, Sx ph H ph' H' → Wd K Z ph' m' H' → RepV K Z ph' H' u z → Q u H'
def NP (K : PySem.W.Frag) (Z : Addr → Prop) (ph : List Addr) (H : Hp) (m' : M) (ds : List D) (Q : VK) : Prop :=
  ∀ ph' H' p vs, H p = none → H' p = some (.lst vs) → p ∉ ph' → Sx ph H ph' H' → Wd K (Zp Z p) ph' m' H' → RepVs K (Zp Z p) ph' H' vs ds → Q (.ref p) H'
section
variable {K : PySem.W.Frag} {Z : Addr → Prop} {ph ph' : List Addr} {H H' : Hp} {m m' : M} {v : V} {d z : D} {vs : List V} {ds : List D} {σ : L2.St} {env : Env} {Q : VK}
theorem Wd.nz (w : Wd K Z ph m H) {p : Addr} (h : H p = none) : ¬ Z p := fun q => by
  obtain ⟨o, e⟩ := w.zin p q
  rw [h] at e; cases e
theorem Wd.np (w : Wd K Z ph m H) {p : Addr} (h : H p = none) : p ∉ ph := fun q => by
  obtain ⟨o, e⟩ := w.there q
  rw [h] at e; cases e
theorem PV.np (w : Wd K Z ph m H) (q : PV K Z ph H m' (.lst ds) Q) : NP K Z ph H m' ds Q := fun ph' H' p vs h1 h2 h3 s w' r =>
  q ph' H' (.ref p) s w'.unz (.lst h2 h3 (w.nz h1) r.unz)
/-- a new list is laid -/
theorem NP.upd (w : Wd K Z ph m H) {p : Addr} (h : H p = none) (r : RepVs K Z ph H vs ds) (q : NP K Z ph H m ds Q) : Q (.ref p) (L2.upd H p (.lst vs)) := by
  have s : Sx ph H ph (L2.upd H p (.lst vs)) := Sx.upd h
  exact q ph _ p vs h upd_same (w.np h) s (w.newZ h) ((r.zp h).mono s)
theorem PV.tup (w : Wd K Z ph m H) {p : Addr} (h : H p = none) (r : RepVs K Z ph H vs ds) (q : PV K Z ph H m (.tup ds) Q) : Q (.ref p) (L2.upd H p (.tup vs)) :=
  q ph _ (.ref p) (Sx.upd h) (w.new h) (.tup (SqT.of upd_same) (r.mono (Sx.upd h)))
theorem PV.here (w : Wd K Z ph m H) (r : RepV K Z ph H v z) (q : PV K Z ph H m z Q) : Q v H := q ph H v Sx.refl w r
/-- what is read as a list -/
theorem rd_lst (w : Wd K Z ph m H) (r : RepV K Z ph H v d) (h : deref m d = .lst ds) : ∃ a vs, v = .ref a ∧ H a = some (.lst vs) ∧ RepVs K Z ph H vs ds := by
  cases r with
  | lst h1 n z r => simp only [deref] at h; cases h; exact ⟨_, _, rfl, h1, r⟩
  | @ref a l h1 _ =>
    simp only [deref] at h
    split at h
    · rename_i xs e
      cases h
      obtain ⟨vs, h2, r⟩ := w.at e h1
      exact ⟨a, vs, rfl, h2, r⟩
    · cases h
  | _ => simp [deref] at h
theorem rd_tup (r : RepV K Z ph H v d) (h : deref m d = .tup ds) : ∃ a vs, v = .ref a ∧ SqT K H a vs ∧ RepVs K Z ph H vs ds := by
  cases r with
  | tup h1 r => simp only [deref] at h; cases h; exact ⟨_, _, rfl, h1, r⟩
  | ref h1 _ =>
    simp only [deref] at h
    split at h <;> cases h
  | _ => simp [deref] at h
theorem rd_frz (r : RepV K Z ph H v d) (h : deref m d = .frz ds) : ∃ a vs, v = .ref a ∧ FrzL K H a vs ∧ RepVs K Z ph H vs ds := by
  cases r with
  | frz h1 r => simp only [deref] at h; cases h; exact ⟨_, _, rfl, h1, r⟩
  | ref h1 _ =>
    simp only [deref] at h
    split at h <;> cases h
  | _ => simp [deref] at h
theorem rd_str {x : Str} (r : RepV K Z ph H v d) (h : deref m d = .str x) : v = .str x := by
  cases r with
  | str y => simp only [deref] at h; cases h; rfl
  | ref h1 _ =>
    simp only [deref] at h
    split at h <;> cases h
  | _ => simp [deref] at h
end

/-! ## operators -/
def rG (K : PySem.W.Frag) (g : M → D → D → Option D) : R2 := fun v w H Q => ∃ Z ph m x y z, Wd K Z ph m H ∧ RepV K Z ph H v x ∧ RepV K Z ph H w y ∧ g m x y = some z ∧ PV K Z ph H m z Q
def rGN (K : PySem.W.Frag) (g : M → D → D → Option D) : R2 := fun v w H Q => ∃ Z ph m x y ds, Wd K Z ph m H ∧ RepV K Z ph H v x ∧ RepV K Z ph H w y ∧ g m x y = some (.lst ds) ∧ NP K Z ph H m ds Q
section
variable {X : Cx}
theorem or_addN : OpR X (binaryOp .Add) (rGN X.K addD) := by
  intro pins s σ H v w u1 u2 Q I r1 r2 h
  obtain ⟨Z, ph, m, x, y, ds, wd, rx, ry, hz, q⟩ := h
  unfold addD at hz
  split at hz
  · cases hz
  · split at hz <;> cases hz
  · split at hz <;> cases hz
  · split at hz
    · rename_i a b ea eb
      split at hz
      · rename_i hl
        cases hz
        obtain ⟨p, vs, rfl, h1, q1⟩ := rd_lst wd rx ea
        obtain ⟨p', ws, rfl, h2, q2⟩ := rd_lst wd ry eb
        refine op_cat pins s σ H _ _ _ _ Q I r1 r2 ⟨p, p', vs, ws, rfl, rfl, h1, h2, ?_, fun l hl => q.upd wd hl (q1.append q2)⟩
        rw [q1.len, q2.len, ← lim_eq]; exact hl
      · cases hz
    · cases hz
theorem or_add : OpR X (binaryOp .Add) (rG X.K addD) := by
  intro pins s σ H v w u1 u2 Q I r1 r2 h
  obtain ⟨Z, ph, m, x, y, z, wd, rx, ry, hz, q⟩ := h
  have hz0 := hz
  unfold addD at hz
  split at hz
  · cases hz; cases rx; cases ry
    exact op_add pins s σ H _ _ _ _ Q I r1 r2 ⟨_, _, rfl, rfl, q.here wd (.int _)⟩
  · split at hz
    · rename_i hl
      cases hz; cases rx; cases ry
      exact op_add_str pins s σ H _ _ _ _ Q I r1 r2 ⟨_, _, rfl, rfl, by rw [← lim_eq]; exact hl, q.here wd (.str _)⟩
    · cases hz
  · split at hz
    · rename_i hl
      cases hz
      cases rx with
      | tup h1 q1 =>
        cases ry with
        | tup h2 q2 =>
          refine op_catA pins s σ H _ _ _ _ Q I r1 r2 ⟨_, _, _, _, rfl, rfl, h1, h2, by rw [q1.len, q2.len, ← lim_eq]; exact hl, fun e => ?_, fun _ e => ?_, fun _ _ p hp => q.tup wd hp (q1.append q2)⟩
          · subst e
            cases q1
            exact q.here wd (.tup h2 q2)
          · subst e
            cases q2
            rw [List.append_nil] at q
            exact q.here wd (.tup h1 q1)
    · cases hz
  · split at hz
    · rename_i a b ea eb
      split at hz
      · rename_i hl
        cases hz
        exact or_addN pins s σ H v w u1 u2 Q I r1 r2 ⟨Z, ph, m, _, _, _, wd, rx, ry, hz0, q.np wd⟩
      · cases hz
    · cases hz
theorem mulOk_ok {i j : Int} (h : mulOk i j = true) : CMul i j ∨ CMulW i j := by
  simp only [mulOk, small, Bool.or_eq_true, Bool.and_eq_true, decide_eq_true_eq] at h
  rcases h with (h | h) | h
  · exact .inl (.inl h)
  · exact .inl (.inr h)
  · exact .inr h
theorem mulT_run {pins : List (Addr × Obj)} {s : Shared} {σ : L2.St} {H : Hp} {v w : V} {u1 u2 : Value} {Q : VK} {Z : Addr → Prop} {ph : List Addr} {m : M} {x : D} {a : List D} {k : Int} (I : Inv X pins σ H s) (r1 : RelV v u1) (r2 : RelV w u2) (wd : Wd X.K Z ph m H) (rx : RepV X.K Z ph H v x) (ea : deref m x = .tup a) (ry : RepV X.K Z ph H w (.int k)) (hl : (-1000 ≤ k ∧ k ≤ 1000) ∧ a.length ≤ 1000) (q : PV X.K Z ph H m (.tup (List.replicate k.toNat a).flatten) Q) :
    wpAny (model X.prog X.w) X.A (binaryOp .Mult u1 u2) (EP X pins σ Q) X.xe s := by
  cases ry
  obtain ⟨p, vs, rfl, h1, q1⟩ := rd_tup rx ea
  by_cases c1 : vs = [] ∨ k = 1
  · refine op_repS pins s σ H _ _ _ _ Q I r1 r2 ⟨p, k, vs, rfl, rfl, h1, by omega, by omega, c1, q.here wd (.tup h1 ?_)⟩
    rcases c1 with rfl | rfl
    · cases q1; simpa using RepVs.nil
    · simpa using q1
  · have n1 : vs ≠ [] := fun e => c1 (.inl e)
    have n2 : k ≠ 1 := fun e => c1 (.inr e)
    by_cases c2 : k ≤ 0
    · refine op_repZ pins s σ H _ _ _ _ Q I r1 r2 ⟨p, k, vs, rfl, rfl, h1, by omega, c2, n1, fun l hl => q.tup wd hl ?_⟩
      rw [show k.toNat = 0 by omega]
      exact .nil
    · exact op_repT pins s σ H _ _ _ _ Q I r1 r2 ⟨p, k, vs, rfl, rfl, h1, n1, by omega, by omega, by rw [q1.len]; exact hl.2, fun l hl => q.tup wd hl (q1.rep _)⟩
theorem or_mulN : OpR X (binaryOp .Mult) (rGN X.K mulD) := by
  intro pins s σ H v w u1 u2 Q I r1 r2 h
  obtain ⟨Z, ph, m, x, y, ds, wd, rx, ry, hz, q⟩ := h
  unfold mulD at hz
  split at hz
  · split at hz <;> cases hz
  · split at hz
    · rename_i a ea
      split at hz
      · rename_i hl
        simp only [Bool.and_eq_true, decide_eq_true_eq] at hl
        cases hz
        cases ry
        obtain ⟨p, vs, rfl, h1, q1⟩ := rd_lst wd rx ea
        exact op_rep pins s σ H _ _ _ _ Q I r1 r2 ⟨p, _, vs, rfl, rfl, h1, hl.1.1.2, hl.1.2, by rw [q1.len, ← lim_eq]; exact hl.2, fun l hl => q.upd wd hl (q1.rep _)⟩
      · cases hz
    · split at hz <;> cases hz
    · cases hz
  · cases hz
theorem or_mul : OpR X (binaryOp .Mult) (rG X.K mulD) := by
  intro pins s σ H v w u1 u2 Q I r1 r2 h
  obtain ⟨Z, ph, m, x, y, z, wd, rx, ry, hz, q⟩ := h
  have hz0 := hz
  unfold mulD at hz
  split at hz
  · split at hz
    · rename_i hm
      cases hz; cases rx; cases ry
      rcases mulOk_ok hm with hm | hm
      · exact op_mul pins s σ H _ _ _ _ Q I r1 r2 ⟨_, _, rfl, rfl, hm, q.here wd (.int _)⟩
      · exact op_mulW pins s σ H _ _ _ _ Q I r1 r2 ⟨_, _, rfl, rfl, hm, q.here wd (.int _)⟩
    · cases hz
  · split at hz
    · split at hz
      · cases hz
        exact or_mulN pins s σ H v w u1 u2 Q I r1 r2 ⟨Z, ph, m, _, _, _, wd, rx, ry, hz0, q.np wd⟩
      · cases hz
    · rename_i a ea
      split at hz
      · rename_i hl
        simp only [Bool.and_eq_true, decide_eq_true_eq] at hl
        cases hz
        exact mulT_run I r1 r2 wd rx ea ry hl q
      · cases hz
    · cases hz
  · cases hz
def bopB : BOp → Operator → Bool
  | .add, .Add => true
  | .sub, .Sub => true
  | .mul, .Mult => true
  | .fdiv, .FloorDiv => true
  | .mod, .Mod => true
  | .pow, .Pow => true
  | .shl, .LShift => true
  | _, _ => false
theorem or_bop {op : BOp} {o : Operator} (h : bopB op o = true) : OpR X (binaryOp o) (rG X.K fun m x y => bopD m op x y) := by
  cases op <;> cases o <;> first | (exact absurd h (by decide)) | skip
  · exact or_add
  · intro pins s σ H v w u1 u2 Q I r1 r2 h
    obtain ⟨Z, ph, m, x, y, z, wd, rx, ry, hz, q⟩ := h
    simp only [bopD] at hz
    unfold subD at hz
    split at hz <;> cases hz
    cases rx; cases ry
    exact op_sub pins s σ H _ _ _ _ Q I r1 r2 ⟨_, _, rfl, rfl, q.here wd (.int _)⟩
  · exact or_mul
  · intro pins s σ H v w u1 u2 Q I r1 r2 h
    obtain ⟨Z, ph, m, x, y, z, wd, rx, ry, hz, q⟩ := h
    simp only [bopD] at hz
    unfold fdivD at hz
    split at hz <;> try cases hz
    split at hz
    · cases hz
      rename_i hd
      simp only [divOk, Bool.and_eq_true, decide_eq_true_eq] at hd
      cases rx; cases ry
      exact op_fdivW pins s σ H _ _ _ _ Q I r1 r2 ⟨_, _, rfl, rfl, hd, q.here wd (.int _)⟩
    · split at hz <;> cases hz
      rename_i hd
      simp only [Bool.and_eq_true, decide_eq_true_eq] at hd
      cases rx; cases ry
      exact op_fdivM pins s σ H _ _ _ _ Q I r1 r2 ⟨_, _, rfl, rfl, hd, q.here wd (.int _)⟩
  · intro pins s σ H v w u1 u2 Q I r1 r2 h
    obtain ⟨Z, ph, m, x, y, z, wd, rx, ry, hz, q⟩ := h
    simp only [bopD] at hz
    unfold modD at hz
    split at hz <;> try cases hz
    split at hz
    · cases hz
      rename_i hd
      cases rx; cases ry
      exact op_mod pins s σ H _ _ _ _ Q I r1 r2 ⟨_, _, rfl, rfl, hd, q.here wd (.int _)⟩
    · split at hz <;> cases hz
      rename_i hd
      cases rx; cases ry
      exact op_modN pins s σ H _ _ _ _ Q I r1 r2 ⟨_, _, rfl, rfl, by omega, q.here wd (.int _)⟩
  · intro pins s σ H v w u1 u2 Q I r1 r2 h
    obtain ⟨Z, ph, m, x, y, z, wd, rx, ry, hz, q⟩ := h
    simp only [bopD] at hz
    unfold powD at hz
    split at hz <;> try cases hz
    split at hz
    · cases hz
      rename_i hd
      simp only [powOk, Bool.and_eq_true, decide_eq_true_eq] at hd
      cases rx; cases ry
      exact op_pow pins s σ H _ _ _ _ Q I r1 r2 ⟨_, _, rfl, rfl, ⟨hd.1.1, hd.1.2, hd.2⟩, q.here wd (.int _)⟩
    · split at hz <;> cases hz
      rename_i hd
      simp only [powOk2, Bool.and_eq_true, decide_eq_true_eq] at hd
      cases rx; cases ry
      exact op_powW pins s σ H _ _ _ _ Q I r1 r2 ⟨_, _, rfl, rfl, ⟨hd.1.1, hd.1.2, hd.2⟩, q.here wd (.int _)⟩

  · intro pins s σ H v w u1 u2 Q I r1 r2 h
    obtain ⟨Z, ph, m, x, y, z, wd, rx, ry, hz, q⟩ := h
    simp only [bopD] at hz
    unfold shlD at hz
    split at hz <;> try cases hz
    split at hz <;> cases hz
    rename_i hd
    simp only [powOk, Bool.and_eq_true, decide_eq_true_eq] at hd
    cases rx; cases ry
    exact op_shl pins s σ H _ _ _ _ Q I r1 r2 ⟨_, _, rfl, rfl, ⟨hd.1.1, hd.1.2, hd.2⟩, q.here wd (.int _)⟩

/-! ### comparisons -/
end
section
variable {K : PySem.W.Frag} {Z : Addr → Prop} {ph : List Addr} {H : Hp} {m : M}
mutual
theorem RepV.dp : ∀ {v d}, pure_ d = true → RepV K Z ph H v d → Dp K H v (toP d)
  | _, _, _, .non => .non
  | _, _, _, .bl b => .bl b
  | _, _, _, .int i => .int i
  | _, _, _, .str x => .str x
  | _, _, q, .tup h r => .tup h (RepVs.dp q r)
  | _, _, q, .lst h n z r => .lst (SqL.of h) (RepVs.dp q r)
  | _, _, q, .frz h r => by simp [pure_] at q
  | _, _, q, .ref h _ => by simp [pure_] at q
  | _, _, q, .obj h _ => by simp [pure_] at q
  | _, _, q, .dic h _ => by simp [pure_] at q
  | _, _, q, .gl h => by simp [pure_] at q
theorem RepVs.dp : ∀ {vs ds}, pures ds = true → RepVs K Z ph H vs ds → DpAll K H vs (toPs ds)
  | _, _, _, .nil => .nil
  | _, _, q, .cons h r => by
    simp only [pures, Bool.and_eq_true] at q
    exact .cons (RepV.dp q.1 h) (RepVs.dp q.2 r)
end
theorem dp_deref {v : V} {d : D} (w : Wd K Z ph m H) (r : RepV K Z ph H v d) (hp : pure_ (deref m d) = true) : Dp K H v (toP (deref m d)) := by
  cases r with
  | @ref a l h _ =>
    simp only [deref] at hp ⊢
    split at hp
    · rename_i xs e
      obtain ⟨vs, h2, r⟩ := w.at e h
      exact .lst (SqL.of h2) (RepVs.dp hp r)
    · simp [pure_] at hp
  | frz h r => simp [deref, pure_] at hp
  | obj h _ => simp [deref, pure_] at hp
  | dic h _ => simp [deref, pure_] at hp
  | gl h => simp [deref, pure_] at hp
  | non => exact .non
  | bl b => exact .bl b
  | int i => exact .int i
  | str x => exact .str x
  | tup h r => exact RepV.dp (ph := ph) (Z := Z) hp (.tup h r)
  | lst h n z r => exact RepV.dp hp (.lst h n z r)
end
section
variable {X : Cx}
def rGC (K : PySem.W.Frag) (g : M → D → D → Option Bool) : R2 := fun v w H Q => ∃ Z ph m x y z, Wd K Z ph m H ∧ RepV K Z ph H v x ∧ RepV K Z ph H w y ∧ g m x y = some z ∧ Q (.bl z) H
theorem or_eq (hu : X.A.units + 64 < cLine) : OpR X (compareOp .Eq) (rGC X.K eqD) := by
  intro pins s σ H v w u1 u2 Q I r1 r2 h
  obtain ⟨Z, ph, m, x, y, z, wd, rx, ry, hz, q⟩ := h
  unfold eqD at hz
  split at hz
  · cases hz; cases rx; cases ry
    refine op_eq pins s σ H _ _ _ _ Q I r1 r2 ⟨rfl, ?_⟩
    simpa using q
  · cases hz; cases rx; cases ry
    refine op_eq pins s σ H _ _ _ _ Q I r1 r2 ⟨rfl, ?_⟩
    simpa using q
  · cases hz; cases rx; cases ry
    refine op_eq pins s σ H _ _ _ _ Q I r1 r2 ⟨rfl, ?_⟩
    rw [L2.dec_bl]; exact q
  · split at hz
    · rename_i hk
      cases hz
      simp only [eqOk, Bool.and_eq_true, decide_eq_true_eq] at hk
      obtain ⟨⟨⟨⟨k1, k2⟩, k3⟩, k4⟩, k5⟩ := hk
      obtain ⟨as, a1⟩ := Dp.reads I _ _ _ (dp_deref wd rx k1) r1
      obtain ⟨bs, b1⟩ := Dp.reads I _ _ _ (dp_deref wd ry k2) r2
      exact SeqAt.compareEq_reads a1 b1 k3 k4 (by omega) ⟨.bl _, H, I, rfl, q⟩
    · cases hz
theorem or_ne (hu : X.A.units + 64 < cLine) : OpR X (compareOp .NotEq) (rGC X.K fun m x y => (eqD m x y).map (!·)) := by
  intro pins s σ H v w u1 u2 Q I r1 r2 h
  obtain ⟨Z, ph, m, x, y, z, wd, rx, ry, hz, q⟩ := h
  obtain ⟨k, hk, rfl⟩ := Option.map_eq_some_iff.mp hz
  unfold eqD at hk
  split at hk
  · cases hk; cases rx; cases ry
    refine op_ne pins s σ H _ _ _ _ Q I r1 r2 ⟨rfl, ?_⟩
    simpa using q
  · cases hk; cases rx; cases ry
    refine op_ne pins s σ H _ _ _ _ Q I r1 r2 ⟨rfl, ?_⟩
    simpa using q
  · cases hk; cases rx; cases ry
    refine op_ne pins s σ H _ _ _ _ Q I r1 r2 ⟨rfl, ?_⟩
    rw [L2.dec_bl]; exact q
  · split at hk
    · rename_i hk'
      cases hk
      simp only [eqOk, Bool.and_eq_true, decide_eq_true_eq] at hk'
      obtain ⟨⟨⟨⟨k1, k2⟩, k3⟩, k4⟩, k5⟩ := hk'
      obtain ⟨as, a1⟩ := Dp.reads I _ _ _ (dp_deref wd rx k1) r1
      obtain ⟨bs, b1⟩ := Dp.reads I _ _ _ (dp_deref wd ry k2) r2
      exact SeqAt.compareNe_reads a1 b1 k3 k4 (by omega) ⟨.bl _, H, I, rfl, q⟩
    · cases hk
theorem flat_rep {K : PySem.W.Frag} {Z : Addr → Prop} {ph : List Addr} {H : Hp} {v : V} {d : D} (r : RepV K Z ph H v d) (h : flatD d = true) : flatV v = true := by
  cases r <;> first | rfl | simp [flatD] at h
theorem eqF_rep {K : PySem.W.Frag} {Z : Addr → Prop} {ph : List Addr} {H : Hp} {v w : V} {d e : D} (r : RepV K Z ph H v d) (h : flatD d = true) (q : RepV K Z ph H w e) (h' : flatD e = true) : eqV v w = eqF d e := by
  cases r <;> cases q <;> first | rfl | simp [flatD] at h h'
theorem flats_rep {K : PySem.W.Frag} {Z : Addr → Prop} {ph : List Addr} {H : Hp} {vs : List V} {ds : List D} (r : RepVs K Z ph H vs ds) (h : ds.all flatD = true) : vs.all flatV = true := by
  induction ds generalizing vs with
  | nil => cases r; rfl
  | cons d ds ih =>
    cases r with
    | cons h0 r =>
      simp only [List.all_cons, Bool.and_eq_true] at h ⊢
      exact ⟨flat_rep h0 h.1, ih r h.2⟩
theorem inV_rep {K : PySem.W.Frag} {Z : Addr → Prop} {ph : List Addr} {H : Hp} {v : V} {d : D} {vs : List V} {ds : List D} (r : RepVs K Z ph H vs ds) (h : ds.all flatD = true) (q : RepV K Z ph H v d) (hd : flatD d = true) : inV v vs = ds.any fun z => eqF z d := by
  induction ds generalizing vs with
  | nil => cases r; rfl
  | cons d0 ds ih =>
    cases r with
    | cons h0 r =>
      simp only [List.all_cons, Bool.and_eq_true] at h
      have := ih r h.2
      unfold inV at this ⊢
      rw [List.any_cons, List.any_cons, this, eqF_rep h0 h.1 q hd]
theorem rd_seq {K : PySem.W.Frag} {Z : Addr → Prop} {ph : List Addr} {H : Hp} {m : M} {v : V} {d : D} {ds : List D} (w : Wd K Z ph m H) (r : RepV K Z ph H v d) (h : seqOf m d = some ds) : ∃ a vs, v = .ref a ∧ (SqL K H a vs ∨ SqT K H a vs) ∧ RepVs K Z ph H vs ds := by
  unfold seqOf at h
  split at h
  · rename_i xs e
    cases h
    obtain ⟨a, vs, e1, e2, q⟩ := rd_tup r e
    exact ⟨a, vs, e1, .inr e2, q⟩
  · rename_i xs e
    cases h
    obtain ⟨a, vs, e1, e2, q⟩ := rd_lst w r e
    exact ⟨a, vs, e1, .inl (SqL.of e2), q⟩
  · cases h
theorem or_in : OpR X (compareOp .In) (rGC X.K inD) := by
  intro pins s σ H v w u1 u2 Q I r1 r2 h
  obtain ⟨Z, ph, m, x, y, z, wd, rx, ry, hz, q⟩ := h
  unfold inD at hz
  split at hz
  · rename_i ys e
    split at hz
    · rename_i hk
      cases hz
      simp only [Bool.and_eq_true] at hk
      obtain ⟨a, vs, rfl, hq, rs⟩ := rd_seq wd ry e
      refine op_in_seq pins s σ H _ _ _ _ Q I r1 r2 ⟨a, vs, rfl, hq, flat_rep rx hk.1, flats_rep rs hk.2, ?_⟩
      rw [inV_rep rs hk.2 rx hk.1]
      exact q
    · cases hz
  · cases hz
theorem or_notin : OpR X (compareOp .NotIn) (rGC X.K fun m x y => (inD m x y).map (!·)) := by
  intro pins s σ H v w u1 u2 Q I r1 r2 h
  obtain ⟨Z, ph, m, x, y, z, wd, rx, ry, hz, q⟩ := h
  obtain ⟨k, hk, rfl⟩ := Option.map_eq_some_iff.mp hz
  unfold inD at hk
  split at hk
  · rename_i ys e
    split at hk
    · rename_i hk'
      cases hk
      simp only [Bool.and_eq_true] at hk'
      obtain ⟨a, vs, rfl, hq, rs⟩ := rd_seq wd ry e
      refine op_notIn_seq pins s σ H _ _ _ _ Q I r1 r2 ⟨a, vs, rfl, hq, flat_rep rx hk'.1, flats_rep rs hk'.2, ?_⟩
      rw [inV_rep rs hk'.2 rx hk'.1]
      exact q
    · cases hk
  · cases hk
def copB : COp → CmpOp → Bool
  | .eq, .Eq => true
  | .ne, .NotEq => true
  | .lt, .Lt => true
  | .le, .LtE => true
  | .gt, .Gt => true
  | .ge, .GtE => true
  | .isin, .In => true
  | .notin, .NotIn => true
  | _, _ => false
theorem or_cop (hu : X.A.units + 64 < cLine) {op : COp} {o : CmpOp} (h : copB op o = true) : OpR X (compareOp o) (rGC X.K fun m x y => cmpD m op x y) := by
  cases op <;> cases o <;> first | (exact absurd h (by decide)) | skip
  · exact or_eq hu
  · exact or_ne hu
  · intro pins s σ H v w u1 u2 Q I r1 r2 h
    obtain ⟨Z, ph, m, x, y, z, wd, rx, ry, hz, q⟩ := h
    simp only [cmpD] at hz
    unfold ordD at hz
    split at hz <;> cases hz
    cases rx; cases ry
    exact op_lt pins s σ H _ _ _ _ Q I r1 r2 ⟨_, _, rfl, rfl, q⟩
  · intro pins s σ H v w u1 u2 Q I r1 r2 h
    obtain ⟨Z, ph, m, x, y, z, wd, rx, ry, hz, q⟩ := h
    simp only [cmpD] at hz
    unfold ordD at hz
    split at hz <;> cases hz
    cases rx; cases ry
    exact op_le pins s σ H _ _ _ _ Q I r1 r2 ⟨_, _, rfl, rfl, q⟩
  · intro pins s σ H v w u1 u2 Q I r1 r2 h
    obtain ⟨Z, ph, m, x, y, z, wd, rx, ry, hz, q⟩ := h
    simp only [cmpD] at hz
    unfold ordD at hz
    split at hz <;> cases hz
    cases rx; cases ry
    exact op_gt pins s σ H _ _ _ _ Q I r1 r2 ⟨_, _, rfl, rfl, q⟩
  · intro pins s σ H v w u1 u2 Q I r1 r2 h
    obtain ⟨Z, ph, m, x, y, z, wd, rx, ry, hz, q⟩ := h
    simp only [cmpD] at hz
    unfold ordD at hz
    split at hz <;> cases hz
    cases rx; cases ry
    exact op_ge pins s σ H _ _ _ _ Q I r1 r2 ⟨_, _, rfl, rfl, q⟩
  · exact or_in
  · exact or_notin

end
/-! ## dicts -/
section
variable {K : PySem.W.Frag} {Z : Addr → Prop} {ph : List Addr} {H : Hp} {m : M}
theorem key_iff {k k' : Key} {d d' : D} (h : keyR k d) (h' : keyR k' d') : k = k' ↔ d = d' := by
  cases k <;> cases d <;> (try exact h.elim) <;> cases k' <;> cases d' <;> (try exact h'.elim) <;> (first | (have h1 : _ = _ := h; have h2 : _ = _ := h'; subst h1; subst h2; simp) | simp)
theorem key_of_rep {v : V} {d d' : D} (r : RepV K Z ph H v d) (h : keyOf d = some d') : ∃ k, keyR k d' ∧ v = kV k := by
  cases r <;> simp only [keyOf] at h <;> try cases h
  · exact ⟨.inl _, rfl, rfl⟩
  · exact ⟨.inr _, rfl, rfl⟩
theorem get_rep {k : Key} {d : D} (h : keyR k d) : ∀ {kvs : List (D × D)} {vvs : List (Key × V)}, RepKs K Z ph H vvs kvs → (∀ e, kget d kvs = some e → ∃ v, valV vvs k = some v ∧ RepV K Z ph H v e) ∧ (kget d kvs = none → valV vvs k = none)
  | [], vvs, r => by
    obtain ⟨ks, vs⟩ := r
    cases vvs with
    | nil => exact ⟨fun e he => (by simp [kget] at he), fun _ => rfl⟩
    | cons p q => cases vs
  | (g, e) :: kvs, vvs, r => by
    obtain ⟨ks, vs⟩ := r
    cases vvs with
    | nil => cases vs
    | cons p q =>
      cases ks with
      | cons k1 ks =>
        cases vs with
        | cons v1 vs =>
          obtain ⟨i1, i2⟩ := get_rep h (kvs := kvs) (vvs := q) ⟨ks, vs⟩
          have hi := key_iff k1 h
          by_cases hg : g = d
          · have hp : p.1 = k := hi.mpr hg
            have ev : valV (p :: q) k = some p.2 := by unfold valV; rw [List.find?_cons_of_pos (by simpa using hp)]; rfl
            refine ⟨fun e' he => ?_, fun he => ?_⟩
            · simp only [kget, if_pos hg] at he
              cases he
              exact ⟨p.2, ev, v1⟩
            · simp only [kget, if_pos hg] at he
              cases he
          · have hp : ¬ p.1 = k := fun z => hg (hi.mp z)
            have ev : valV (p :: q) k = valV q k := by unfold valV; rw [List.find?_cons_of_neg (by simpa using hp)]
            rw [ev]
            simp only [kget, if_neg hg]
            exact ⟨i1, i2⟩
theorem any_rep {k : Key} {d : D} (h : keyR k d) : ∀ {kvs : List (D × D)} {vvs : List (Key × V)}, KeysR (vvs.map (·.1)) (kvs.map (·.1)) → (vvs.any fun kv => decide (kv.1 = k)) = kvs.any fun kv => decide (kv.1 = d)
  | [], [], _ => rfl
  | [], _ :: _, r => by cases r
  | _ :: _, [], r => by cases r
  | (g, e) :: kvs, p :: q, r => by
    cases r with
    | cons k1 ks =>
      have hi := key_iff k1 h
      simp only [List.any_cons, any_rep h ks]
      congr 1
      exact decide_eq_decide.mpr hi
theorem KeysR.append {ks ks' : List Key} {ds ds' : List D} (r : KeysR ks ds) (r' : KeysR ks' ds') : KeysR (ks ++ ks') (ds ++ ds') := by
  induction r with
  | nil => exact r'
  | cons h r ih => exact .cons h ih
theorem map_rep {k : Key} {d e : D} {v : V} (h : keyR k d) (rv : RepV K Z ph H v e) : ∀ {kvs : List (D × D)} {vvs : List (Key × V)}, RepKs K Z ph H vvs kvs → RepKs K Z ph H (vvs.map fun kv => if kv.1 = k then (kv.1, v) else kv) (kvs.map fun kv => if kv.1 = d then (kv.1, e) else kv)
  | [], vvs, ⟨ks, vs⟩ => by
    cases vvs with
    | nil => exact ⟨ks, vs⟩
    | cons p q => cases vs
  | (g, e') :: kvs, vvs, ⟨ks, vs⟩ => by
    cases vvs with
    | nil => cases vs
    | cons p q =>
      cases ks with
      | cons k1 ks =>
        cases vs with
        | cons v1 vs =>
          obtain ⟨i1, i2⟩ := map_rep h rv (kvs := kvs) (vvs := q) ⟨ks, vs⟩
          have hi := key_iff k1 h
          by_cases hg : g = d
          · have hp : p.1 = k := hi.mpr hg
            simp only [List.map_cons, if_pos hg, if_pos hp]
            exact ⟨.cons k1 i1, .cons rv i2⟩
          · have hp : ¬ p.1 = k := fun z => hg (hi.mp z)
            simp only [List.map_cons, if_neg hg, if_neg hp]
            exact ⟨.cons k1 i1, .cons v1 i2⟩
theorem put_rep {k : Key} {d e : D} {v : V} (h : keyR k d) (rv : RepV K Z ph H v e) {kvs : List (D × D)} {vvs : List (Key × V)} (r : RepKs K Z ph H vvs kvs) : RepKs K Z ph H (putK vvs k v) (kput d e kvs) := by
  unfold putK kput
  rw [any_rep h r.ks]
  split
  · exact map_rep h rv r
  · refine ⟨?_, ?_⟩
    · rw [List.map_append, List.map_append]
      exact r.ks.append (.cons h .nil)
    · rw [List.map_append, List.map_append]
      exact r.vs.append (.cons rv .nil)
theorem RepKs.len {kvs : List (D × D)} {vvs : List (Key × V)} (r : RepKs K Z ph H vvs kvs) : vvs.length = kvs.length := by
  have := r.vs.len
  simpa using this
theorem Wd.dat (w : Wd K Z ph m H) {l : Nat} {kvs : List (D × D)} (h : m[l]? = some (MO.dct kvs)) {a : Addr} (ha : ph[l]? = some a) : ∃ vvs, H a = some (.dK vvs) ∧ RepKs K Z ph H vvs kvs := by
  obtain ⟨b, vvs, e1, e2, r⟩ := w.obd l kvs h
  rw [ha] at e1; cases e1
  exact ⟨vvs, e2, r⟩
theorem Wd.iat (w : Wd K Z ph m H) {l : Nat} {nm : Str} {fs : List (Str × D)} (h : m[l]? = some (MO.ins nm fs)) {a : Addr} (ha : ph[l]? = some a) : ∃ C dx fvs, PySem.W.nsIn K mainGlobals nm = some (some (.ref C)) ∧ H a = some (.ins C dx fvs) ∧ RepFs K Z ph H fvs fs := by
  obtain ⟨b, C, dx, fvs, e1, e0, e2, r⟩ := w.obi l nm fs h
  rw [ha] at e1; cases e1
  exact ⟨C, dx, fvs, e0, e2, r⟩
/-- what is looked up in a dict -/
theorem dlook_rep {v u : V} {x k : D} {o : Option D} (w : Wd K Z ph m H) (r : RepV K Z ph H v x) (rk : RepV K Z ph H u k) (h : dlook m x k = some o) : ∃ a vvs k', v = .ref a ∧ H a = some (.dK vvs) ∧ u = kV k' ∧ DGet H a u (valV vvs k') ∧
    (∀ e, o = some e → ∃ z, valV vvs k' = some z ∧ RepV K Z ph H z e) ∧ (o = none → valV vvs k' = none) := by
  cases r <;> simp only [dlook] at h <;> try cases h
  rename_i a l ha _
  split at h
  · rename_i kvs hm
    obtain ⟨k0, hk, rfl⟩ := Option.map_eq_some_iff.mp h
    obtain ⟨k', hr, rfl⟩ := key_of_rep rk hk
    obtain ⟨vvs, e2, r2⟩ := w.dat hm ha
    obtain ⟨g1, g2⟩ := get_rep hr r2
    exact ⟨a, vvs, k', rfl, e2, rfl, DGet.k e2, g1, g2⟩
  · cases h
end
section
variable {X : Cx}
theorem signIn_some {z : Str} {x : D} {b : Bool} (h : signIn z x = some b) : ∃ c, x = .str ⟨#[c]⟩ ∧ b = decide (c ∈ z.cps.toList) := by
  cases x with
  | str x =>
    obtain ⟨⟨l⟩⟩ := x
    match l, h with
    | [c], h => exact ⟨c, rfl, by simpa [signIn] using h.symm⟩
  | _ => cases h
theorem or_inM (hu : X.A.units + 64 < cLine) : OpR X (compareOp .In) (rGC X.K inM) := by
  intro pins s σ H v w u1 u2 Q I r1 r2 h
  obtain ⟨Z, ph, m, x, y, z, wd, rx, ry, hz, q⟩ := h
  by_cases hy : ∃ l, y = .dic l
  · obtain ⟨l, rfl⟩ := hy
    obtain ⟨o, ho, e⟩ := Option.map_eq_some_iff.mp hz
    obtain ⟨a, vvs, k', rfl, e2, e3, g, g1, g2⟩ := dlook_rep wd ry rx ho
    obtain rfl : u2 = Value.ref a := r2
    refine d_in (by omega) I g r1 fun s' I' => ⟨.bl z, H, I', ?_, q⟩
    have : z = (valV vvs k').isSome := by
      rw [← e]
      cases o with
      | none => rw [g2 rfl]; rfl
      | some d => obtain ⟨z, ez, _⟩ := g1 d rfl; rw [ez]; rfl
    rw [this]; rfl
  by_cases hy2 : ∃ z0, y = .str z0
  · obtain ⟨z0, rfl⟩ := hy2
    obtain ⟨c, rfl, e⟩ := signIn_some hz
    cases ry
    cases rx
    exact op_in_sign pins s σ H _ _ u1 u2 Q I r1 r2 ⟨c, z0, rfl, rfl, by rw [← e]; exact q⟩
  · have e : inM m x y = inD m x y := by
      cases y <;> first | rfl | (exact absurd ⟨_, rfl⟩ hy) | (exact absurd ⟨_, rfl⟩ hy2)
    rw [e] at hz
    exact or_in pins s σ H v w u1 u2 Q I r1 r2 ⟨Z, ph, m, x, y, z, wd, rx, ry, hz, q⟩
theorem or_notinM (hu : X.A.units + 64 < cLine) : OpR X (compareOp .NotIn) (rGC X.K fun m x y => (inM m x y).map (!·)) := by
  intro pins s σ H v w u1 u2 Q I r1 r2 h
  obtain ⟨Z, ph, m, x, y, z, wd, rx, ry, hz, q⟩ := h
  by_cases hy : ∃ l, y = .dic l
  · obtain ⟨l, rfl⟩ := hy
    obtain ⟨b, hz, e0⟩ := Option.map_eq_some_iff.mp hz
    obtain ⟨o, ho, e⟩ := Option.map_eq_some_iff.mp hz
    obtain ⟨a, vvs, k', rfl, e2, e3, g, g1, g2⟩ := dlook_rep wd ry rx ho
    obtain rfl : u2 = Value.ref a := r2
    refine d_notIn (by omega) I g r1 fun s' I' => ⟨.bl z, H, I', ?_, q⟩
    have : z = !(valV vvs k').isSome := by
      rw [← e0, ← e]
      cases o with
      | none => rw [g2 rfl]; rfl
      | some d => obtain ⟨z, ez, _⟩ := g1 d rfl; rw [ez]; rfl
    rw [this]; rfl
  by_cases hy2 : ∃ z0, y = .str z0
  · obtain ⟨z0, rfl⟩ := hy2
    obtain ⟨b, hz, e0⟩ := Option.map_eq_some_iff.mp hz
    obtain ⟨c, rfl, e⟩ := signIn_some hz
    cases ry
    cases rx
    exact op_notIn_sign pins s σ H _ _ u1 u2 Q I r1 r2 ⟨c, z0, rfl, rfl, by rw [← e, e0]; exact q⟩
  · have e : inM m x y = inD m x y := by
      cases y <;> first | rfl | (exact absurd ⟨_, rfl⟩ hy) | (exact absurd ⟨_, rfl⟩ hy2)
    simp only [e] at hz
    exact or_notin pins s σ H v w u1 u2 Q I r1 r2 ⟨Z, ph, m, x, y, z, wd, rx, ry, hz, q⟩
theorem or_copM (hu : X.A.units + 64 < cLine) {op : COp} {o : CmpOp} (h : copB op o = true) : OpR X (compareOp o) (rGC X.K fun m x y => cmpM m op x y) := by
  cases op
  · exact or_cop hu h
  · exact or_cop hu h
  · exact or_cop hu h
  · exact or_cop hu h
  · exact or_cop hu h
  · exact or_cop hu h
  · cases o <;> first | (exact absurd h (by decide)) | exact or_inM hu
  · cases o <;> first | (exact absurd h (by decide)) | exact or_notinM hu
end
end Pv

namespace Pv
open PySem PySem.Spec PyProof.Rows L2
variable [TabT]
/-! ## calls that count one a level (the kit's Room counts three: no more than 231 levels) -/
structure Rm (n : Nat) (A : Around) : Prop where
  hd : A.handled = none
  dp : A.depth + 2 * n + 20 < recursionLimit
  un : A.units + 9 * n + 260 < cLine
/-- .. in a def's body: a class may be called -/
structure RmB (n : Nat) (A : Around) : Prop where
  hd : A.handled = none
  dp : A.depth + 2 * n + 21 < recursionLimit
  un : A.units + 9 * n + 266 < cLine
theorem Rm.deeper {n : Nat} {A : Around} (r : Rm (n + 1) A) (env : PySem.Env) : RmB n (A.deeper env) :=
  ⟨r.hd, by have := r.dp; show A.depth + 1 + 2 * n + 21 < _; omega, by have := r.un; show A.units + 3 + 9 * n + 266 < _; omega⟩
theorem Rm.depth {n : Nat} {A : Around} (r : Rm n A) : A.depth < recursionLimit := by have := r.dp; omega
theorem RmB.rm {n : Nat} {A : Around} (r : RmB n A) : Rm n A := ⟨r.hd, by have := r.dp; omega, by have := r.un; omega⟩
theorem RmB.units {n : Nat} {A : Around} (r : RmB n A) : A.units + 64 < cLine := by have := r.un; omega
theorem RmB.room {n : Nat} {A : Around} (r : RmB n A) : Room 3 A := ⟨r.hd, by have := r.dp; omega, by have := r.un; omega⟩
theorem RmB.make {n : Nat} {A : Around} (r : RmB n A) (C : Addr) (us : List Value) (kw : List (Str × Value)) : Rm n (A.under (.builtin "type.__call__" ⟨.ref C :: us, kw⟩)) :=
  ⟨r.hd, by have := r.dp; rw [make_depth]; omega, by have := r.un; rw [make_units]; omega⟩
theorem Rm.of {n k : Nat} {A : Around} (r : Room k A) (h : 2 * n + 15 ≤ 3 * k) : Rm n A := ⟨r.hd, by have := r.dp; omega, by have := r.un; omega⟩
structure FnK (P : Program) (w : World) (K : PySem.W.Frag) (mg : Str → Option Value) (base : Heap) (n : Nat) (f : Addr) (fd : FuncData) (ps : List Str) (sp : Sp) : Prop where
  len : ∀ vs H Q E, sp vs H Q E → vs.length = ps.length
  run : ∀ (A : Around) (outer : List PySem.Env) (s : Shared) (H : Hp) (args : Args) (us : List Value) (vs : List V) (Q : VK) (E : XK), Rm n A → Env0 P w K mg base A outer s H → BindsTo s fd args (ps.zip us) → Vals vs us → sp vs H Q E →
    codeAny (model P w) A (.call (.ref f) args) (CR (CX P w) outer P w H s Q E) s
theorem FnK.ok {P : Program} {w : World} {K : PySem.W.Frag} {mg : Str → Option Value} {base : Heap} {n k : Nat} {f : Addr} {fd : FuncData} {ps : List Str} {sp : Sp} (F : FnK P w K mg base n f fd ps sp) (h : 2 * n + 15 ≤ 3 * k) : FnOk P w K mg base (CX P w) k f fd ps sp :=
  ⟨F.len, fun A outer s H args us vs Q E hr => F.run A outer s H args us vs Q E (Rm.of hr h)⟩
section
variable {X : Cx} {n : Nat} {f : Addr} {fd : FuncData} {ps : List Str} {sp : Sp} {x : Str} {p pos : Pos} {e : Expr} {es : List Expr} {t : TA}
/-- a callee's exception is the caller's -/
theorem xe_of {pins : List (Addr × Obj)} {σ : L2.St} {H : Hp} {s s' : Shared} {W : WX} {e : Value} (tk : Takes X W) (I : Inv X pins σ H s) (h : CX X.prog X.w X.stack H s (fun cls d H' => W cls d σ H') e s') : X.xe e s' :=
  tk e s' (XE.of_call I (fun _ _ _ q => q) h)
theorem k_run {pins : List (Addr × Obj)} {σ : L2.St} {H : Hp} {s : Shared} {Q : VK} {us : List Value} {vs : List V} {W : WX} (tk : Takes X W) (F : FnK X.prog X.w X.K X.mg X.base n f fd ps sp) (hr : Rm n X.A) (hb : Binds X.K fd ps [])
    (I : Inv X pins σ H s) (r : Vals vs us) (h : sp vs H Q fun cls d H' => W cls d σ H') : wpAny (model X.prog X.w) X.A (call (.ref f) us) (EP X pins σ Q) X.xe s := by
  have hl : us.length = ps.length := by rw [← r.length]; exact F.len _ _ _ _ h
  have b := hb s us I.kIn (by rw [List.append_nil]; exact hl)
  rw [List.append_nil] at b
  refine wpAny_call (codeAny_mono (F.run X.A X.stack s H ⟨us, []⟩ us vs Q _ hr I.env0 b r h) fun r s' hq => ?_)
  cases r with
  | error e => exact xe_of tk I hq
  | ok fl =>
    cases fl with
    | ret u => exact I.after hq
    | next => exact False.elim hq
    | brk => exact False.elim hq
    | cont => exact False.elim hq
theorem k_runD {pins : List (Addr × Obj)} {σ : L2.St} {H : Hp} {s : Shared} {Q : VK} {us us0 : List Value} {vs vs0 : List V} {W : WX} (tk : Takes X W) (F : FnK X.prog X.w X.K X.mg X.base n f fd ps sp) (hr : Rm n X.A) (hb : Binds X.K fd ps us0) (hv : Vals vs0 us0)
    (I : Inv X pins σ H s) (r : Vals vs us) (h : sp (vs ++ vs0) H Q fun cls d H' => W cls d σ H') : wpAny (model X.prog X.w) X.A (call (.ref f) us) (EP X pins σ Q) X.xe s := by
  have hl : (us ++ us0).length = ps.length := by rw [← F.len _ _ _ _ h, (r.append hv).length]
  refine wpAny_call (codeAny_mono (F.run X.A X.stack s H ⟨us, []⟩ (us ++ us0) (vs ++ vs0) Q _ hr I.env0 (hb s us I.kIn hl) (r.append hv) h) fun r s' hq => ?_)
  cases r with
  | error e => exact xe_of tk I hq
  | ok fl =>
    cases fl with
    | ret u => exact I.after hq
    | next => exact False.elim hq
    | brk => exact False.elim hq
    | cont => exact False.elim hq
def tCallW (sp : Sp) (W : WX) (t : TA) : TE := fun σ H Q => t σ H fun vs H1 => sp vs H1 Q fun cls d H' => W cls d σ H'
theorem k_call {W : WX} (tk : Takes X W) (F : FnK X.prog X.w X.K X.mg X.base n f fd ps sp) (hr : Rm n X.A) (hg : Gl X x) (hm : X.mg x = some (.ref f)) (hk : PySem.W.keepIn X.K (.ref f) = true) (hb : Binds X.K fd ps [])
    (ha : PA X (e :: es) t) (hdb : (x == ("__debug__" : Str)) = false) (he : starEach (e :: es) X.env = (false, eval e X.env) :: starEach es X.env) (hpl : (backTo pos (starEach es X.env)).any (·.1) = false) :
    PE X (.Call (.Name x p) (e :: es) [] pos) (tCallW sp W t) := by
  refine ⟨fun pins s σ H Q I h => ?_⟩
  refine wpAny_Call_Name_kw (ld_glob I hg hm ?_ hdb)
  refine PySem.W.callWith_K (h₀ := X.base) I.ok.mod.kin hk (thn (ha.run pos pins s σ H _ I h) fun us s1 ⟨vs, H1, I1, r, q⟩ => ⟨I1.kIn, ?_⟩) he hpl
  exact k_run tk F hr hb I1 r q
def tCallWD (sp : Sp) (W : WX) (vs0 : List V) (t : TA) : TE := fun σ H Q => t σ H fun vs H1 => sp (vs ++ vs0) H1 Q fun cls d H' => W cls d σ H'
theorem k_callD {W : WX} {us0 : List Value} {vs0 : List V} (tk : Takes X W) (F : FnK X.prog X.w X.K X.mg X.base n f fd ps sp) (hr : Rm n X.A) (hg : Gl X x) (hm : X.mg x = some (.ref f)) (hk : PySem.W.keepIn X.K (.ref f) = true) (hb : Binds X.K fd ps us0) (hv : Vals vs0 us0)
    (ha : PA X (e :: es) t) (hdb : (x == ("__debug__" : Str)) = false) (he : starEach (e :: es) X.env = (false, eval e X.env) :: starEach es X.env) (hpl : (backTo pos (starEach es X.env)).any (·.1) = false) :
    PE X (.Call (.Name x p) (e :: es) [] pos) (tCallWD sp W vs0 t) := by
  refine ⟨fun pins s σ H Q I h => ?_⟩
  refine wpAny_Call_Name_kw (ld_glob I hg hm ?_ hdb)
  refine PySem.W.callWith_K (h₀ := X.base) I.ok.mod.kin hk (thn (ha.run pos pins s σ H _ I h) fun us s1 ⟨vs, H1, I1, r, q⟩ => ⟨I1.kIn, ?_⟩) he hpl
  exact k_runD tk F hr hb hv I1 r q
theorem k_callD0 {W : WX} {us0 : List Value} {vs0 : List V} (tk : Takes X W) (F : FnK X.prog X.w X.K X.mg X.base n f fd ps sp) (hr : Rm n X.A) (hg : Gl X x) (hm : X.mg x = some (.ref f)) (hk : PySem.W.keepIn X.K (.ref f) = true) (hb : Binds X.K fd ps us0) (hv : Vals vs0 us0)
    (hdb : (x == ("__debug__" : Str)) = false) : PE X (.Call (.Name x p) [] [] pos) (fun σ H Q => sp ([] ++ vs0) H Q fun cls d H' => W cls d σ H') := by
  refine ⟨fun pins s σ H Q I h => ?_⟩
  refine wpAny_Call_Name_kw (ld_glob I hg hm ?_ hdb)
  exact PySem.W.callWith_K0 I.kIn hk (k_runD (us := []) tk F hr hb hv I .nil h)
theorem k_call0 {W : WX} (tk : Takes X W) (F : FnK X.prog X.w X.K X.mg X.base n f fd ps sp) (hr : Rm n X.A) (hg : Gl X x) (hm : X.mg x = some (.ref f)) (hk : PySem.W.keepIn X.K (.ref f) = true) (hb : Binds X.K fd ps [])
    (hdb : (x == ("__debug__" : Str)) = false) : PE X (.Call (.Name x p) [] [] pos) (fun σ H Q => sp [] H Q fun cls d H' => W cls d σ H') := by
  refine ⟨fun pins s σ H Q I h => ?_⟩
  refine wpAny_Call_Name_kw (ld_glob I hg hm ?_ hdb)
  exact PySem.W.callWith_K0 I.kIn hk (k_run (us := []) tk F hr hb I .nil h)
end
/-- a def as it stands behind the top, its defaults any -/
structure FunV (K : PySem.W.Frag) (x qual : Str) (st : Stmt) (f : Addr) (fd : FuncData) : Prop where
  ex : ∃ (oc : Value) (od : Option Addr) (dV kV doc pm : Value) (an : Option Addr) (cdv ct : Value) (osl : Array (Option Value)),
    fd = PySem.W.fnOf x qual (defArgs st) (defBody st) (defScope st) dV kV doc pm an cdv ct ∧ K.lookup f = some ⟨oc, od, .func fd, osl⟩ ∧ PySem.W.codeIn K cdv qual = true
  kp : PySem.W.keepIn K (.ref f) = true
theorem k_fn {P : Program} {w : World} {K : PySem.W.Frag} {mg : Str → Option Value} {base : Heap} {x qual : Str} {st : Stmt} {f : Addr} {fd : FuncData} {N ps : List Str} {n : Nat} {sp : Sp} (F : FunV K x qual st f fd) (S : FnScope N ps (defScope st)) (len : ∀ vs H Q E, sp vs H Q E → vs.length = ps.length)
    (hbody : ∀ (cdv : Value) (A : Around) (outer : List PySem.Env) (s : Shared) (H : Hp) (vs : List V) (Q : VK) (E : XK), fd.code = cdv → Env0 P w K mg base A outer s H → RmB n (A.deeper (envOfC qual (defScope st) s.heap.objs.size f cdv)) → sp vs H Q E →
      ∃ t, PSs (cxOf (CX P w) P w K mg base N qual (defScope st) f cdv A outer s H E) (defBody st) t ∧ t { nx := fun _ H' => Q .non H', rt := Q } (start N vs) H) : FnK P w K mg base (n + 1) f fd ps sp := by
  obtain ⟨oc, od, dV, kV, doc, pm, an, cdv, ct, osl, rfl, lk, hcd⟩ := F.ex
  refine ⟨len, fun A outer s H args us vs Q E hr e0 hb r hsp => ?_⟩
  have hl := len _ _ _ _ hsp
  have KX : K.In s.heap := e0.mod.kin.keeps fun b o e => (e0.bs b o e).1
  have nl : s.heap.NoLimit := e0.mod.nolimit.keeps fun b o e => (e0.bs b o e).1
  have hkind : ∀ y ∈ ps.zip us, (defScope st).names.lookup y.1 = some .local ∨ ((defScope st).names.lookup y.1 = some .cell ∧ ((cellsFrom (s.heap.objs.size + 1) (defScope st).names []).lookup y.1).isSome = true) := fun ⟨a, v⟩ hy => by
    rcases S.par a (List.of_mem_zip hy).1 with q | q
    · exact .inl q
    · exact .inr ⟨q, PySem.W.cellsFrom_some _ _ _ (.inl q)⟩
  refine codeAny_call_function hr.depth (KX _ _ lk) rfl S.co S.gen rfl (PySem.W.codeRec_of KX hcd) (hb _ _ _ _ ?_)
  refine wpAny_newFunctionEnv_cells S.kind hkind fun env he s1 y => ?_
  subst he
  refine ⟨nl.keeps y.toInCall.keep, codeAny_func ?_⟩
  obtain ⟨t, ht, hq⟩ := hbody cdv A outer s H vs Q E rfl e0 (hr.deeper _) hsp
  have I : Inv (cxOf (CX P w) P w K mg base N qual (defScope st) f cdv A outer s H E) [] (start N vs) H s1 := inv_start S hr.hd e0 hl r y
  refine wpAny_mono (ht.run [] s1 (start N vs) H _ I hq) (fun fl s' hs => ?_) fun e s' hs => hs
  cases fl with
  | ret u =>
    obtain ⟨v, σ', H', J, rv, q⟩ := hs
    exact ⟨v, H', J.os, J.bare, J.base, J.hok, rv, q⟩
  | next =>
    obtain ⟨σ', H', J, q⟩ := hs
    exact ⟨V.non, H', J.os, J.bare, J.base, J.hok, rfl, q⟩
  | brk =>
    obtain ⟨_, _, _, q⟩ := hs
    exact False.elim q
  | cont =>
    obtain ⟨_, _, _, q⟩ := hs
    exact False.elim q
end Pv

namespace Pv
open PySem L2
variable [TabT]

/-! ## readings -/
abbrev RE := Env → M → O1
abbrev RA := Env → M → OA
/-- what an end must bring: a value, or an exception -/
def FinG {α : Type} (K : PySem.W.Frag) (y : Yc) (Z : Addr → Prop) (ph : List Addr) (H : Hp) (σ : L2.St) (r : Rz α) (P : α → M → List Addr → Hp → Prop) : Prop := match r with
  | .no => False
  | .ok a m' => ∀ ph' H', Sx ph H ph' H' → Wd K Z ph' m' H' → P a m' ph' H'
  | .ex x m' => ∀ ph' H' cls d, Sx ph H ph' H' → Wd K Z ph' m' H' → RepX K Z ph' H' cls d x → y.W cls d σ H'
def tEv (K : PySem.W.Frag) (y : Yc) (r : RE) : TE := fun σ H Q => ∃ Z ph env m, RepE K y Z ph H σ env ∧ Wd K Z ph m H ∧ FinG K y Z ph H σ (r env m) fun d _ ph' H' => ∀ u, RepV K Z ph' H' u d → Q u H'
/-- .. a new list -/
def FinN (K : PySem.W.Frag) (y : Yc) (Z : Addr → Prop) (ph : List Addr) (H : Hp) (σ : L2.St) (r : O1) (Q : VK) : Prop := match r with
  | .no => False
  | .ok d m' => ∃ ds, d = .lst ds ∧ NP K Z ph H m' ds Q
  | .ex x m' => ∀ ph' H' cls d, Sx ph H ph' H' → Wd K Z ph' m' H' → RepX K Z ph' H' cls d x → y.W cls d σ H'
def tEvN (K : PySem.W.Frag) (y : Yc) (r : RE) : TE := fun σ H Q => ∃ Z ph env m, RepE K y Z ph H σ env ∧ Wd K Z ph m H ∧ FinN K y Z ph H σ (r env m) Q
def tEvT (K : PySem.W.Frag) (y : Yc) (r : RE) : TT := fun σ H Q => ∃ Z ph env m, RepE K y Z ph H σ env ∧ Wd K Z ph m H ∧ FinG K y Z ph H σ (r env m) fun d _ _ H' => ∃ b, d = .bl b ∧ Q b H'
def tEvA (K : PySem.W.Frag) (y : Yc) (r : RA) : TA := fun σ H Q => ∃ Z ph env m, RepE K y Z ph H σ env ∧ Wd K Z ph m H ∧ FinG K y Z ph H σ (r env m) fun ds _ ph' H' => ∀ vs, RepVs K Z ph' H' vs ds → Q vs H'

theorem pe_imp {X : Cx} {x : Expr} {t t' : TE} (h : PE X x t) (i : ∀ σ H Q, t' σ H Q → t σ H Q) : PE X x t' := ⟨fun pins s σ H Q I w => h.run pins s σ H Q I (i σ H Q w)⟩
theorem pt_imp {X : Cx} {x : Expr} {t t' : TT} (h : PT X x t) (i : ∀ σ H Q, t' σ H Q → t σ H Q) : PT X x t' := ⟨fun pins s σ H Q I w => h.run pins s σ H Q I (i σ H Q w)⟩
theorem pw_imp {X : Cx} {x : Expr} {t t' : TT} (h : PW X x t) (i : ∀ σ H Q, t' σ H Q → t σ H Q) : PW X x t' := ⟨fun wh pins s σ H Q I w => h.run wh pins s σ H Q I (i σ H Q w)⟩
theorem pa_imp {X : Cx} {x : List Expr} {t t' : TA} (h : PA X x t) (i : ∀ σ H Q, t' σ H Q → t σ H Q) : PA X x t' := ⟨fun pos pins s σ H Q I w => h.run pos pins s σ H Q I (i σ H Q w)⟩
theorem ps_imp {X : Cx} {x : Stmt} {t t' : TS} (h : PS X x t) (i : ∀ D σ H, t' D σ H → t D σ H) : PS X x t' := ⟨fun pins s σ H D I w => h.run pins s σ H D I (i D σ H w)⟩
theorem pss_imp {X : Cx} {x : List Stmt} {t t' : TS} (h : PSs X x t) (i : ∀ D σ H, t' D σ H → t D σ H) : PSs X x t' := ⟨fun pins s σ H D I w => h.run pins s σ H D I (i D σ H w)⟩

section
variable {α β : Type} {K : PySem.W.Frag} {y : Yc} {Z : Addr → Prop} {ph ph1 : List Addr} {H H1 : Hp} {m m' m1 : M} {d z : D} {ds : List D} {σ : L2.St} {env : Env} {Q : VK} {r : RE} {b : Bool} {P : α → M → List Addr → Hp → Prop} {P' : β → M → List Addr → Hp → Prop}
theorem PV.after (q : PV K Z ph H m' z Q) (s : Sx ph H ph1 H1) : PV K Z ph1 H1 m' z Q := fun ph' H' u s' w r => q ph' H' u (s.trans s') w r
theorem NP.after (q : NP K Z ph H m' ds Q) (s : Sx ph H ph1 H1) : NP K Z ph1 H1 m' ds Q := fun ph' H' p vs h1 h2 h3 s' w r => q ph' H' p vs (s.free h1) h2 h3 (s.trans s') w r
theorem FinG.after {r : Rz α} (q : FinG K y Z ph H σ r P) (s : Sx ph H ph1 H1) : FinG K y Z ph1 H1 σ r P := by
  cases r with
  | no => exact q
  | ok a m => exact fun ph' H' s' w => q ph' H' (s.trans s') w
  | ex x m => exact fun ph' H' cls d s' w r => q ph' H' cls d (s.trans s') w r
theorem FinG.imp {P2 : α → M → List Addr → Hp → Prop} {r : Rz α} (q : FinG K y Z ph H σ r P) (h : ∀ a m' ph' H', P a m' ph' H' → P2 a m' ph' H') : FinG K y Z ph H σ r P2 := by
  cases r with
  | no => exact q
  | ok a m => exact fun ph' H' s' w => h _ _ _ _ (q ph' H' s' w)
  | ex x m => exact q
theorem FinG.bind {r : Rz α} {f : α → M → Rz β} (q : FinG K y Z ph H σ (r.bind f) P') (k : ∀ a m1 ph1 H1, Sx ph H ph1 H1 → Wd K Z ph1 m1 H1 → FinG K y Z ph1 H1 σ (f a m1) P' → P a m1 ph1 H1) : FinG K y Z ph H σ r P := by
  cases r with
  | no => exact q
  | ok a m => exact fun ph' H' s' w => k a m ph' H' s' w (FinG.after (show FinG K y Z ph H σ (f a m) P' from q) s')
  | ex x m => exact q
theorem FinG.of {o : Option α} (q : FinG K y Z ph H σ (Rz.of o m) P) : ∃ a, o = some a ∧ ∀ ph' H', Sx ph H ph' H' → Wd K Z ph' m H' → P a m ph' H' := by
  cases o with
  | none => exact q.elim
  | some a => exact ⟨a, rfl, q⟩
theorem FinG.pv {o : Option D} (q : FinG K y Z ph H σ (Rz.of o m) fun d _ ph' H' => ∀ u, RepV K Z ph' H' u d → Q u H') : ∃ z, o = some z ∧ PV K Z ph H m z Q := by
  obtain ⟨z, hz, q⟩ := q.of
  exact ⟨z, hz, fun ph' H' u s w r => q ph' H' s w u r⟩
theorem FinG.okv (q : FinG K y Z ph H σ (.ok z m) fun d _ ph' H' => ∀ u, RepV K Z ph' H' u d → Q u H') : PV K Z ph H m z Q := fun ph' H' u s w r => q ph' H' s w u r
theorem FinG.tv {Q : Bool → Hp → Prop} {o : Option Bool} (q : FinG K y Z ph H σ (Rz.of (o.map D.bl) m) fun d _ _ H' => ∃ b, d = .bl b ∧ Q b H') : ∃ b, o = some b ∧ ∀ ph' H', Sx ph H ph' H' → Wd K Z ph' m H' → Q b H' := by
  obtain ⟨z, hz, q⟩ := q.of
  obtain ⟨b, hb, rfl⟩ := Option.map_eq_some_iff.mp hz
  exact ⟨b, hb, fun ph' H' s w => by obtain ⟨b', e, q⟩ := q ph' H' s w; cases e; exact q⟩
theorem FinN.after {r : O1} (q : FinN K y Z ph H σ r Q) (s : Sx ph H ph1 H1) : FinN K y Z ph1 H1 σ r Q := by
  cases r with
  | no => exact q
  | ok d m => obtain ⟨ds, e, q⟩ := q; exact ⟨ds, e, q.after s⟩
  | ex x m => exact fun ph' H' cls d s' w r => q ph' H' cls d (s.trans s') w r
/-- the end of a new list's reading, one step on -/
theorem FinN.bind {r : Rz α} {f : α → M → O1} (q : FinN K y Z ph H σ (r.bind f) Q) (k : ∀ a m1 ph1 H1, Sx ph H ph1 H1 → Wd K Z ph1 m1 H1 → FinN K y Z ph1 H1 σ (f a m1) Q → P a m1 ph1 H1) : FinG K y Z ph H σ r P := by
  cases r with
  | no => exact q
  | ex x m => exact q
  | ok a m => exact fun ph1 H1 s1 w1 => k a m ph1 H1 s1 w1 (FinN.after (show FinN K y Z ph H σ (f a m) Q from q) s1)
theorem FinN.of {o : Option D} (q : FinN K y Z ph H σ (Rz.of o m) Q) : ∃ ds, o = some (.lst ds) ∧ NP K Z ph H m ds Q := by
  cases o with
  | none => exact q.elim
  | some d => obtain ⟨ds, rfl, q⟩ := q; exact ⟨ds, rfl, q⟩
theorem ev_bind {R : VK} {f : D → M → Rz β} (re : RepE K y Z ph H σ env) (wd : Wd K Z ph m H) (q : FinG K y Z ph H σ ((r env m).bind f) P')
    (k : ∀ d m1 ph1 H1 v, Sx ph H ph1 H1 → Wd K Z ph1 m1 H1 → RepE K y Z ph1 H1 σ env → RepV K Z ph1 H1 v d → FinG K y Z ph1 H1 σ (f d m1) P' → R v H1) : tEv K y r σ H R :=
  ⟨Z, ph, env, m, re, wd, q.bind fun d m1 ph1 H1 s w q1 u r => k d m1 ph1 H1 u s w (re.mono s) r q1⟩
theorem ev_all {R : VK} (re : RepE K y Z ph H σ env) (wd : Wd K Z ph m H) (q : FinG K y Z ph H σ (r env m) fun d _ ph' H' => ∀ u, RepV K Z ph' H' u d → R u H') : tEv K y r σ H R := ⟨Z, ph, env, m, re, wd, q⟩
theorem evt_bind {R : Bool → Hp → Prop} {f : D → M → Rz β} (re : RepE K y Z ph H σ env) (wd : Wd K Z ph m H) (q : FinG K y Z ph H σ ((r env m).bind f) P') (hb : ∀ d m1, (∀ b, d ≠ .bl b) → f d m1 = .no)
    (k : ∀ b m1 ph1 H1, Sx ph H ph1 H1 → Wd K Z ph1 m1 H1 → RepE K y Z ph1 H1 σ env → FinG K y Z ph1 H1 σ (f (.bl b) m1) P' → R b H1) : tEvT K y r σ H R :=
  ⟨Z, ph, env, m, re, wd, q.bind fun d m1 ph1 H1 s w q1 => by
    cases d with
    | bl b => exact ⟨b, rfl, k b m1 ph1 H1 s w (re.mono s) q1⟩
    | _ => rw [hb _ _ (fun b e => by cases e)] at q1; exact q1.elim⟩
theorem eva_bind {R : List V → Hp → Prop} {r : RA} {f : List D → M → Rz β} (re : RepE K y Z ph H σ env) (wd : Wd K Z ph m H) (q : FinG K y Z ph H σ ((r env m).bind f) P')
    (k : ∀ ds m1 ph1 H1 vs, Sx ph H ph1 H1 → Wd K Z ph1 m1 H1 → RepE K y Z ph1 H1 σ env → RepVs K Z ph1 H1 vs ds → FinG K y Z ph1 H1 σ (f ds m1) P' → R vs H1) : tEvA K y r σ H R :=
  ⟨Z, ph, env, m, re, wd, q.bind fun d m1 ph1 H1 s w q1 u r => k d m1 ph1 H1 u s w (re.mono s) r q1⟩
end

/-! ## the context of a def's body, of a comprehension's block, of an except suite -/
/-- what is known of a def that makes a lambda -/
structure LamK (X : Cx) : Prop where
  ex : ∃ c P, X.env.code = .ref c ∧ LamX.TabB X.base X.mg c P ∧ (P, X.env.qual ++ "<lambda>") ∈ TabT.T ∧ ∀ q ∈ TabT.T, q.1 = P → q.2 = X.env.qual ++ "<lambda>"
structure Sx_ where
  N : List Str
  sc : Scope
  fb : Str → Bool
  calm : Bool := true
  xs : Option Nat := none
  xn : List Str := []
  lm : Bool := false
structure XOk (X : Cx) (S : Sx_) (y : Yc) : Prop where
  n : X.N = S.N
  sc : X.env.scope = S.sc
  fb : X.fn = S.fb
  calm : S.calm = true → X.calm = true
  nd : X.N.Nodup
  un : X.A.units + 64 < cLine
  tk : Takes X y.W
  xs : ∀ i x, y.cx = some (i, x) → S.xs = some i ∧ x.nm ∈ S.xn
  pin : ∀ a cls d, y.xa = some (a, cls, d) → ∃ (X' : Cx) (oe : Obj) (pn : List (Addr × Obj)), X = X'.suite a ((a, oe) :: pn) ∧ Zc cls d oe ∧ ∃ vs, oe.data = .fields vs
  lm : S.lm = true → LamK X
theorem XOk.off {X : Cx} {S : Sx_} {y : Yc} (h : XOk X S y) {i : Nat} (hi : S.xs ≠ some i) : y.off i := fun j x e ej => by
  subst ej
  exact hi (h.xs j x e).1

/-! ## expressions, node by node -/
section
variable {X : Cx} {y_ : Yc} {x y w : Expr} {pos : Pos} {ra rb rc : RE}
theorem n_var {i : Nat} {s : Str} (hN : X.N[i]? = some s) (hv : Vis X.env.scope s) (hd : (s == ("__debug__" : Str)) = false) (hcd : (s == ("__classdict__" : Str)) = false) :
    PE X (.Name s pos) (tEv X.K y_ fun env m => match env[i]? with | some (some d) => .ok d m | _ => .no) :=
  pe_imp (pe_var hN hv hd hcd) fun σ H Q ⟨Z, ph, env, m, re, wd, q⟩ => by
    simp only at q
    split at q
    · rename_i d h
      obtain ⟨v, h1, r⟩ := re.at_ i d h
      exact ⟨v, h1, q.okv.here wd r⟩
    · exact q.elim
def conP : D → Const → Prop
  | .non, .none => True
  | .bl b, .bool b' => b = b'
  | .int i, .int j => i = j
  | .str x, .str y => x = y
  | _, _ => False
theorem n_con {c : Const} {k : Nat} {d : D} (h : conP d c) : PE X (.Constant c k pos) (tEv X.K y_ fun _ m => .ok d m) := by
  unfold conP at h
  split at h
  · exact pe_imp pe_non fun σ H Q ⟨Z, ph, env, m, re, wd, q⟩ => q.okv.here wd .non
  · cases h; exact pe_imp pe_bl fun σ H Q ⟨Z, ph, env, m, re, wd, q⟩ => q.okv.here wd (.bl _)
  · cases h; exact pe_imp pe_int fun σ H Q ⟨Z, ph, env, m, re, wd, q⟩ => q.okv.here wd (.int _)
  · cases h; exact pe_imp pe_str fun σ H Q ⟨Z, ph, env, m, re, wd, q⟩ => q.okv.here wd (.str _)
  · exact h.elim
theorem n_glob {s : Str} {u : Value} {v : V} {d : D} (hg : Gl X s) (hm : X.mg s = some u) (r : RelV v u) (hr : ∀ Z ph H, RepV X.K Z ph H v d) (hd : (s == ("__debug__" : Str)) = false) :
    PE X (.Name s pos) (tEv X.K y_ fun _ m => .of (some d) m) :=
  pe_imp (pe_glob hg hm r hd) fun σ H Q ⟨Z, ph, env, m, re, wd, q⟩ => FinG.okv q |>.here wd (hr _ _ _)
theorem n_bin {op : BOp} {o : Operator} (h : bopB op o = true) (ha : PE X x (tEv X.K y_ ra)) (hb : PE X y (tEv X.K y_ rb)) :
    PE X (.BinOp x o y pos) (tEv X.K y_ fun env m => (ra env m).bind fun x m => (rb env m).bind fun y m => .of (bopD m op x y) m) :=
  pe_imp (pe_op (or_bop h) ha hb) fun σ H Q ⟨Z, ph, env, m, re, wd, q⟩ =>
    ev_bind re wd q fun d1 m1 ph1 H1 v s1 w1 re1 r1 q => ev_bind re1 w1 q fun d2 m2 ph2 H2 w s2 w2 re2 r2 q => by
      obtain ⟨z, hz, q⟩ := q.pv
      exact ⟨Z, ph2, m2, d1, d2, z, w2, r1.mono s2, r2, hz, q⟩
theorem n_binN {op : BOp} {o : Operator} (h : bopB op o = true) (hop : op = .add ∨ op = .mul) (ha : PE X x (tEv X.K y_ ra)) (hb : PE X y (tEv X.K y_ rb)) :
    PE X (.BinOp x o y pos) (tEvN X.K y_ fun env m => (ra env m).bind fun x m => (rb env m).bind fun y m => .of (bopD m op x y) m) := by
  have ho : OpR X (binaryOp o) (rGN X.K fun m x y => bopD m op x y) := by
    rcases hop with rfl | rfl <;> (cases o <;> first | (exact absurd h (by decide)) | exact or_addN | exact or_mulN)
  exact pe_imp (pe_op ho ha hb) fun σ H Q ⟨Z, ph, env, m, re, wd, q⟩ => ⟨Z, ph, env, m, re, wd, q.bind fun d1 m1 ph1 H1 s1 w1 q v r1 => ⟨Z, ph1, env, m1, re.mono s1, w1, q.bind fun d2 m2 ph2 H2 s2 w2 q w r2 => by
    obtain ⟨ds, hz, q⟩ := q.of
    exact ⟨Z, ph2, m2, d1, d2, ds, w2, r1.mono s2, r2, hz, q⟩⟩⟩
theorem n_neg (ha : PE X x (tEv X.K y_ ra)) : PE X (.UnaryOp .USub x pos) (tEv X.K y_ fun env m => (ra env m).bind fun x m => .of (negD x) m) :=
  pe_imp (pe_un un_neg ha) fun σ H Q ⟨Z, ph, env, m, re, wd, q⟩ =>
    ev_bind re wd q fun d m1 ph1 H1 v s1 w1 re1 r1 q => by
      obtain ⟨z, hz, q⟩ := q.pv
      cases d <;> simp only [negD] at hz <;> try cases hz
      cases r1
      exact ⟨_, rfl, q.here w1 (.int _)⟩
def rCmp (op : COp) (ra rb : RE) : RE := fun env m => (ra env m).bind fun x m => (rb env m).bind fun y m => .of ((cmpM m op x y).map .bl) m
theorem n_cmp (hu : X.A.units + 64 < cLine) {op : COp} {o : CmpOp} (h : copB op o = true) (ha : PE X x (tEv X.K y_ ra)) (hb : PE X y (tEv X.K y_ rb)) (hm : behindInMarks o y = false) :
    PE X (.Compare x [o] [y] pos) (tEv X.K y_ (rCmp op ra rb)) :=
  pe_imp (pe_cmpR (or_copM hu h) ha hb hm) fun σ H Q ⟨Z, ph, env, m, re, wd, q⟩ =>
    ev_bind re wd q fun d1 m1 ph1 H1 v s1 w1 re1 r1 q => ev_bind re1 w1 q fun d2 m2 ph2 H2 w s2 w2 re2 r2 q => by
      obtain ⟨z, hz, q⟩ := q.pv
      obtain ⟨b, hb, rfl⟩ := Option.map_eq_some_iff.mp hz
      exact ⟨Z, ph2, m2, d1, d2, b, w2, r1.mono s2, r2, hb, q.here w2 (.bl _)⟩
theorem t_cmp (hu : X.A.units + 64 < cLine) {op : COp} {o : CmpOp} (h : copB op o = true) (ha : PE X x (tEv X.K y_ ra)) (hb : PE X y (tEv X.K y_ rb)) (hm : behindInMarks o y = false) :
    PT X (.Compare x [o] [y] pos) (tEvT X.K y_ (rCmp op ra rb)) :=
  pt_imp (pt_cmpR (or_copM hu h) ha hb hm) fun σ H Q ⟨Z, ph, env, m, re, wd, q⟩ =>
    ev_bind re wd q fun d1 m1 ph1 H1 v s1 w1 re1 r1 q => ev_bind re1 w1 q fun d2 m2 ph2 H2 w s2 w2 re2 r2 q => by
      obtain ⟨b, hb, q⟩ := q.tv
      exact ⟨Z, ph2, m2, d1, d2, b, w2, r1.mono s2, r2, hb, b, rfl, q ph2 H2 Sx.refl w2⟩
def rChain (o p : COp) (ra rb rc : RE) : RE := fun env m => (ra env m).bind fun x m => (rb env m).bind fun y m => match cmpM m o x y with
  | some true => (rc env m).bind fun z m => .of ((cmpM m p y z).map .bl) m
  | some false => .ok (.bl false) m
  | none => .no
theorem chain_run {α : Type} {op op' : COp} {σ : L2.St} {H : Hp} {Q : VK} {Z ph env m} {P : D → M → List Addr → Hp → Prop} (re : RepE X.K y_ Z ph H σ env) (wd : Wd X.K Z ph m H) (q : FinG X.K y_ Z ph H σ (rChain op op' ra rb rc env m) P)
    (k : ∀ b m' ph' H', Wd X.K Z ph' m' H' → P (.bl b) m' ph' H' → Q (.bl b) H') : tChain (rGC X.K fun m x y => cmpM m op x y) (rGC X.K fun m x y => cmpM m op' x y) (tEv X.K y_ ra) (tEv X.K y_ rb) (tEv X.K y_ rc) σ H Q :=
  ev_bind re wd q fun d1 m1 ph1 H1 v s1 w1 re1 r1 q => ev_bind re1 w1 q fun d2 m2 ph2 H2 w s2 w2 re2 r2 q => by
    cases hb : cmpM m2 op d1 d2 with
    | none => simp only [hb] at q; exact q.elim
    | some b =>
      refine ⟨Z, ph2, m2, d1, d2, b, w2, r1.mono s2, r2, hb, b, rfl, ?_⟩
      cases b with
      | false =>
        simp only [hb] at q
        rw [if_neg Bool.false_ne_true]
        exact k false m2 ph2 H2 w2 (q ph2 H2 Sx.refl w2)
      | true =>
        simp only [hb] at q
        rw [if_pos rfl]
        exact ev_bind re2 w2 q fun d3 m3 ph3 H3 u s3 w3 re3 r3 q => by
          obtain ⟨z, hz, q⟩ := q.of
          obtain ⟨c, hc, rfl⟩ := Option.map_eq_some_iff.mp hz
          exact ⟨Z, ph3, m3, d2, d3, c, w3, r2.mono s3, r3, hc, k c m3 ph3 H3 w3 (q ph3 H3 Sx.refl w3)⟩
theorem n_chain (hu : X.A.units + 64 < cLine) {op op' : COp} {o o' : CmpOp} (h : copB op o = true) (h' : copB op' o' = true) (ha : PE X x (tEv X.K y_ ra)) (hb : PE X y (tEv X.K y_ rb)) (hc : PE X w (tEv X.K y_ rc)) (hm : behindInMarks o' w = false) :
    PE X (.Compare x [o, o'] [y, w] pos) (tEv X.K y_ (rChain op op' ra rb rc)) :=
  pe_imp (pe_chain (or_copM hu h) (or_copM hu h') ha hb hc hm) fun σ H Q ⟨Z, ph, env, m, re, wd, q⟩ => chain_run (α := Nat) re wd q fun b m' ph' H' w q => q _ (.bl _)
theorem t_chain (hu : X.A.units + 64 < cLine) {op op' : COp} {o o' : CmpOp} (h : copB op o = true) (h' : copB op' o' = true) (ha : PE X x (tEv X.K y_ ra)) (hb : PE X y (tEv X.K y_ rb)) (hc : PE X w (tEv X.K y_ rc)) (hm : behindInMarks o' w = false) :
    PT X (.Compare x [o, o'] [y, w] pos) (tEvT X.K y_ (rChain op op' ra rb rc)) :=
  pt_imp (pt_chain (or_copM hu h) (or_copM hu h') ha hb hc hm) fun σ H Q ⟨Z, ph, env, m, re, wd, q⟩ => chain_run (α := Nat) re wd q fun b m' ph' H' w q => by
    obtain ⟨c, e, q⟩ := q
    cases e
    exact ⟨b, rfl, q⟩
theorem non_iff {K : PySem.W.Frag} {Z : Addr → Prop} {ph : List Addr} {H : Hp} {v : V} {d : D} (r : RepV K Z ph H v d) : decide (v = .non) = decide (d = .non) := by
  cases r <;> simp
def rIsN_ (ra : RE) : RE := fun env m => (ra env m).bind fun x m => .ok (.bl (decide (x = .non))) m
def rNotN_ (ra : RE) : RE := fun env m => (ra env m).bind fun x m => .ok (.bl (!decide (x = .non))) m
theorem n_isN {k : Nat} {pos' : Pos} (ha : PE X x (tEv X.K y_ ra)) : PE X (.Compare x [.Is] [.Constant .none k pos'] pos) (tEv X.K y_ (rIsN_ ra)) :=
  pe_imp (pe_cmp (pc_isN ha) rfl) fun σ H Q ⟨Z, ph, env, m, re, wd, q⟩ => ev_bind re wd q fun d1 m1 ph1 H1 v s1 w1 re1 r1 q => by
    rw [non_iff r1]
    exact q.okv.here w1 (.bl _)
theorem t_isN {k : Nat} {pos' : Pos} (ha : PE X x (tEv X.K y_ ra)) : PT X (.Compare x [.Is] [.Constant .none k pos'] pos) (tEvT X.K y_ (rIsN_ ra)) :=
  pt_imp (pt_cmp (pc_isN ha) rfl) fun σ H Q ⟨Z, ph, env, m, re, wd, q⟩ => ev_bind re wd q fun d1 m1 ph1 H1 v s1 w1 re1 r1 q => by
    obtain ⟨b, e, q⟩ := q ph1 H1 Sx.refl w1
    cases e
    exact ⟨_, rfl, by rw [non_iff r1]; exact q⟩
theorem n_notN {k : Nat} {pos' : Pos} (ha : PE X x (tEv X.K y_ ra)) : PE X (.Compare x [.IsNot] [.Constant .none k pos'] pos) (tEv X.K y_ (rNotN_ ra)) :=
  pe_imp (pe_cmp (pc_notN ha) rfl) fun σ H Q ⟨Z, ph, env, m, re, wd, q⟩ => ev_bind re wd q fun d1 m1 ph1 H1 v s1 w1 re1 r1 q => by
    rw [non_iff r1]
    exact q.okv.here w1 (.bl _)
theorem t_notN {k : Nat} {pos' : Pos} (ha : PE X x (tEv X.K y_ ra)) : PT X (.Compare x [.IsNot] [.Constant .none k pos'] pos) (tEvT X.K y_ (rNotN_ ra)) :=
  pt_imp (pt_cmp (pc_notN ha) rfl) fun σ H Q ⟨Z, ph, env, m, re, wd, q⟩ => ev_bind re wd q fun d1 m1 ph1 H1 v s1 w1 re1 r1 q => by
    obtain ⟨b, e, q⟩ := q ph1 H1 Sx.refl w1
    cases e
    exact ⟨_, rfl, by rw [non_iff r1]; exact q⟩

/-! ### and, or, not, if -/
def rAnd_ (ra rb : RE) : RE := fun env m => (ra env m).bind fun x m => match x with
  | .bl true => rb env m
  | .bl false => .ok (.bl false) m
  | _ => .no
def rOr_ (ra rb : RE) : RE := fun env m => (ra env m).bind fun x m => match x with
  | .bl true => .ok (.bl true) m
  | .bl false => rb env m
  | _ => .no
def rNot_ (ra : RE) : RE := fun env m => (ra env m).bind fun x m => .of (notD x) m
def rIf_ (rc ra rb : RE) : RE := fun env m => (rc env m).bind fun x m => match x with
  | .bl true => ra env m
  | .bl false => rb env m
  | _ => .no
variable {rest : List Expr}
theorem n_and1 (ha : PE X x (tEv X.K y_ ra)) : PE X (.BoolOp .And [x] pos) (tEv X.K y_ ra) := pe_one ha
theorem n_or1 (ha : PE X x (tEv X.K y_ ra)) : PE X (.BoolOp .Or [x] pos) (tEv X.K y_ ra) := pe_one ha
theorem no_bl {α : Type} {K : PySem.W.Frag} {y : Yc} {Z ph H σ} {P : α → M → List Addr → Hp → Prop} {d : D} {p q r : Rz α} (h : FinG K y Z ph H σ (match d with | .bl true => p | .bl false => q | _ => r) P) (hr : r = .no) : ∃ b, d = .bl b ∧ FinG K y Z ph H σ (if b then p else q) P := by
  subst hr
  cases d with
  | bl b => cases b <;> exact ⟨_, rfl, h⟩
  | _ => exact h.elim
theorem n_and (ha : PE X x (tEv X.K y_ ra)) (hb : PE X (.BoolOp .And (y :: rest) pos) (tEv X.K y_ rb)) : PE X (.BoolOp .And (x :: y :: rest) pos) (tEv X.K y_ (rAnd_ ra rb)) :=
  pe_imp (pe_and ha hb) fun σ H Q ⟨Z, ph, env, m, re, wd, q⟩ => ev_bind re wd q fun d1 m1 ph1 H1 v s1 w1 re1 r1 q => by
    obtain ⟨b, rfl, q⟩ := no_bl q rfl
    cases r1
    cases b with
    | true => exact ⟨true, rfl, iteT (ev_all re1 w1 q)⟩
    | false => exact ⟨false, rfl, iteF (FinG.okv q |>.here w1 (.bl _))⟩
theorem n_or (ha : PE X x (tEv X.K y_ ra)) (hb : PE X (.BoolOp .Or (y :: rest) pos) (tEv X.K y_ rb)) : PE X (.BoolOp .Or (x :: y :: rest) pos) (tEv X.K y_ (rOr_ ra rb)) :=
  pe_imp (pe_or ha hb) fun σ H Q ⟨Z, ph, env, m, re, wd, q⟩ => ev_bind re wd q fun d1 m1 ph1 H1 v s1 w1 re1 r1 q => by
    obtain ⟨b, rfl, q⟩ := no_bl q rfl
    cases r1
    cases b with
    | true => exact ⟨true, rfl, iteT (FinG.okv q |>.here w1 (.bl _))⟩
    | false => exact ⟨false, rfl, iteF (ev_all re1 w1 q)⟩
theorem n_not (ha : PE X x (tEv X.K y_ ra)) : PE X (.UnaryOp .Not x pos) (tEv X.K y_ (rNot_ ra)) :=
  pe_imp (pe_not ha) fun σ H Q ⟨Z, ph, env, m, re, wd, q⟩ => ev_bind re wd q fun d1 m1 ph1 H1 v s1 w1 re1 r1 q => by
    obtain ⟨z, hz, q⟩ := q.pv
    cases d1 <;> simp only [notD] at hz <;> try cases hz
    cases r1
    exact ⟨_, rfl, q.here w1 (.bl _)⟩
theorem w_and1 (ha : PT X x (tEvT X.K y_ ra)) : PW X (.BoolOp .And [x] pos) (tEvT X.K y_ ra) := pw_and1 ha
theorem w_or1 (ha : PT X x (tEvT X.K y_ ra)) : PW X (.BoolOp .Or [x] pos) (tEvT X.K y_ ra) := pw_or1 ha
theorem bl_no {α : Type} {p q : M → Rz α} : ∀ (d : D) (m1 : M), (∀ b, d ≠ .bl b) → (match d with | .bl true => p m1 | .bl false => q m1 | _ => Rz.no) = .no := fun d m1 h => by
  cases d with
  | bl b => exact absurd rfl (h b)
  | _ => rfl
theorem w_and (ha : PT X x (tEvT X.K y_ ra)) (hb : PW X (.BoolOp .And (y :: rest) pos) (tEvT X.K y_ rb)) : PW X (.BoolOp .And (x :: y :: rest) pos) (tEvT X.K y_ (rAnd_ ra rb)) :=
  pw_imp (pw_and ha hb) fun σ H Q ⟨Z, ph, env, m, re, wd, q⟩ => evt_bind re wd q bl_no fun b m1 ph1 H1 s1 w1 re1 q => by
    cases b with
    | true => exact iteT ⟨Z, ph1, env, m1, re1, w1, q⟩
    | false =>
      obtain ⟨b, e, q⟩ := q ph1 H1 Sx.refl w1
      cases e
      exact iteF q
theorem w_or (ha : PT X x (tEvT X.K y_ ra)) (hb : PW X (.BoolOp .Or (y :: rest) pos) (tEvT X.K y_ rb)) : PW X (.BoolOp .Or (x :: y :: rest) pos) (tEvT X.K y_ (rOr_ ra rb)) :=
  pw_imp (pw_or ha hb) fun σ H Q ⟨Z, ph, env, m, re, wd, q⟩ => evt_bind re wd q bl_no fun b m1 ph1 H1 s1 w1 re1 q => by
    cases b with
    | false => exact iteF ⟨Z, ph1, env, m1, re1, w1, q⟩
    | true =>
      obtain ⟨b, e, q⟩ := q ph1 H1 Sx.refl w1
      cases e
      exact iteT q
theorem t_not (ha : PT X x (tEvT X.K y_ ra)) : PT X (.UnaryOp .Not x pos) (tEvT X.K y_ (rNot_ ra)) :=
  pt_imp (pt_not ha) fun σ H Q ⟨Z, ph, env, m, re, wd, q⟩ => evt_bind re wd q (fun d m1 h => by cases d with | bl b => exact absurd rfl (h b) | _ => rfl) fun b m1 ph1 H1 s1 w1 re1 q => by
    obtain ⟨c, e, q⟩ := q ph1 H1 Sx.refl w1
    cases e
    exact q
theorem t_val (ha : PE X x (tEv X.K y_ ra)) (he : ∀ whole, isTrue x X.env whole = (do let v ← whole; standAt x.pos; holding [v] (truthy v))) : PT X x (tEvT X.K y_ ra) :=
  pt_imp (pt_val ha he) fun σ H Q ⟨Z, ph, env, m, re, wd, q⟩ => ⟨Z, ph, env, m, re, wd, q.imp fun d m' ph' H' ⟨b, e, q⟩ u r => by
    subst e
    cases r
    exact ⟨b, rfl, q⟩⟩
theorem t_ife (hc : PT X w (tEvT X.K y_ rc)) (ha : PT X x (tEvT X.K y_ ra)) (hb : PT X y (tEvT X.K y_ rb)) : PT X (.IfExp w x y pos) (tEvT X.K y_ (rIf_ rc ra rb)) := by
  refine ⟨fun pins s σ H Q I ⟨Z, ph, env, m, re, wd, q⟩ => ?_⟩
  show wpAny _ _ (do if ← isTrue w X.env (eval w X.env) then isTrue x X.env (eval x X.env) else isTrue y X.env (eval y X.env)) _ _ s
  refine wpAny_bind (thn (hc.run pins s σ H (fun b H1 => if b = true then tEvT X.K y_ ra σ H1 Q else tEvT X.K y_ rb σ H1 Q) I (evt_bind re wd q bl_no fun b m1 ph1 H1 s1 w1 re1 q => ?_)) fun b s1 ⟨H1, I1, q1⟩ => ?_)
  · cases b with
    | true => exact iteT ⟨Z, ph1, env, m1, re1, w1, q⟩
    | false => exact iteF ⟨Z, ph1, env, m1, re1, w1, q⟩
  · cases b with
    | true => exact ha.run pins s1 σ H1 Q I1 q1
    | false => exact hb.run pins s1 σ H1 Q I1 q1
theorem n_ife (hc : PT X w (tEvT X.K y_ rc)) (ha : PE X x (tEv X.K y_ ra)) (hb : PE X y (tEv X.K y_ rb)) : PE X (.IfExp w x y pos) (tEv X.K y_ (rIf_ rc ra rb)) :=
  pe_imp (pe_ifExp hc ha hb) fun σ H Q ⟨Z, ph, env, m, re, wd, q⟩ => evt_bind re wd q bl_no fun b m1 ph1 H1 s1 w1 re1 q => by
    cases b with
    | true => exact iteT ⟨Z, ph1, env, m1, re1, w1, q⟩
    | false => exact iteF ⟨Z, ph1, env, m1, re1, w1, q⟩

/-! ### arguments, displays -/
def rCons_ (ra : RE) (rs : RA) : RA := fun env m => (ra env m).bind fun x m => (rs env m).bind fun xs m => .ok (x :: xs) m
variable {xs : List Expr} {rs : RA}
theorem a_nil : PA X [] (tEvA X.K y_ fun _ m => .ok [] m) := pa_imp pa_nil fun σ H Q ⟨Z, ph, env, m, re, wd, q⟩ => q ph H Sx.refl wd [] .nil
theorem a_cons (ha : PE X x (tEv X.K y_ ra)) (hr : PA X xs (tEvA X.K y_ rs)) (hs : starEach (x :: xs) X.env = (false, eval x X.env) :: starEach xs X.env) : PA X (x :: xs) (tEvA X.K y_ (rCons_ ra rs)) :=
  pa_imp (pa_cons ha hr hs) fun σ H Q ⟨Z, ph, env, m, re, wd, q⟩ => ev_bind re wd q fun d1 m1 ph1 H1 v s1 w1 re1 r1 q => eva_bind re1 w1 q fun ds m2 ph2 H2 vs s2 w2 re2 r2 q => q ph2 H2 Sx.refl w2 _ (.cons (r1.mono s2) r2)
theorem n_tup {k : Nat} (ha : PA X xs (tEvA X.K y_ rs)) : PE X (.Tuple xs k pos) (tEv X.K y_ fun env m => (rs env m).bind fun ds m => .of (tupD ds) m) :=
  pe_imp (pe_tup ha) fun σ H Q ⟨Z, ph, env, m, re, wd, q⟩ => eva_bind re wd q fun ds m1 ph1 H1 vs s1 w1 re1 r1 q => by
    obtain ⟨z, hz, q⟩ := q.pv
    unfold tupD at hz
    split at hz
    · rename_i hl
      cases hz
      exact ⟨by rw [r1.len, ← lim_eq]; exact hl, fun l hl => q.tup w1 hl r1⟩
    · cases hz
theorem n_lstN (ha : PA X xs (tEvA X.K y_ rs)) : PE X (.List xs pos) (tEvN X.K y_ fun env m => (rs env m).bind fun ds m => .of (lstD ds) m) :=
  pe_imp (pe_lst ha) fun σ H Q ⟨Z, ph, env, m, re, wd, q⟩ => ⟨Z, ph, env, m, re, wd, q.bind fun ds m1 ph1 H1 s1 w1 q vs r1 => by
    obtain ⟨zs, hz, q⟩ := q.of
    unfold lstD at hz
    split at hz
    · rename_i hl
      cases hz
      exact ⟨by rw [r1.len, ← lim_eq]; exact hl, fun l hl => q.upd w1 hl r1⟩
    · cases hz⟩
/-- a new list as a value, as a mutable thing -/
theorem of_new {r : RE} (h : PE X x (tEvN X.K y_ r)) (hr : ∀ env m d m', r env m = .ok d m' → ∃ ds, d = .lst ds) : PE X x (tEv X.K y_ r) :=
  pe_imp h fun σ H Q ⟨Z, ph, env, m, re, wd, q⟩ => by
    refine ⟨Z, ph, env, m, re, wd, ?_⟩
    cases e : r env m with
    | no => rw [e] at q; exact q
    | ex x m => rw [e] at q; exact q
    | ok d m' =>
      rw [e] at q
      obtain ⟨ds, rfl⟩ := hr env m d m' e
      exact ⟨ds, rfl, q.okv.np wd⟩
theorem Sx.snoc {ph ph' : List Addr} {H H' : Hp} (s : Sx ph H ph' H') {a : Addr} (hn : H a = none) : Sx ph H (ph' ++ [a]) H' := by
  refine ⟨?_, fun b hb => ?_, s.fr, s.ft, s.old, s.kl, s.ki, s.kd, s.tb⟩
  · obtain ⟨x, e⟩ := s.ext
    exact ⟨x ++ [a], by rw [e, List.append_assoc]⟩
  · rcases List.mem_append.mp hb with hb | hb
    · exact s.new b hb
    · have e : b = a := by simpa using hb
      subst e
      exact .inr hn
def rBox_ (r : RE) : RE := fun env m => (r env m).bind fun x m => boxM m x
theorem box_run {K : PySem.W.Frag} {y : Yc} {r : RE} {σ : L2.St} {H : Hp} {Q : VK} (h : tEv K y (rBox_ r) σ H Q) : tEvN K y r σ H Q := by
  obtain ⟨Z, ph, env, m, re, wd, q⟩ := h
  refine ⟨Z, ph, env, m, re, wd, ?_⟩
  unfold rBox_ at q
  generalize r env m = r at q
  cases r with
  | no => exact q
  | ex x m => exact q
  | ok d m' =>
    have q : FinG K y Z ph H σ (boxM m' d) (fun d _ ph' H' => ∀ u, RepV K Z ph' H' u d → Q u H') := q
    cases d with
    | lst ds =>
      refine ⟨ds, rfl, fun ph' H' a vs hn ha hna s w r => ?_⟩
      exact q (ph' ++ [a]) H' (s.snoc hn) (w.box ha hna r) (.ref a) (.ref (by rw [← w.len]; simp) ⟨vs, ha⟩)
    | _ => exact q.elim
theorem n_box {r : RE} (h : PE X x (tEvN X.K y_ r)) : PE X x (tEv X.K y_ (rBox_ r)) := pe_imp h fun σ H Q h => box_run h

/-! ### calls -/
/-- a def's promise -/
def spF (K : PySem.W.Frag) (k : Nat) (f : List D → M → O1) : Sp := fun vs H Q E => vs.length = k ∧ ∃ Z ph m ds, RepVs K Z ph H vs ds ∧ Wd K Z ph m H ∧ (match f ds m with
  | .no => False
  | .ok d m' => PV K Z ph H m' d Q
  | .ex x m' => ∀ ph' H' cls dd, Sx ph H ph' H' → Wd K Z ph' m' H' → RepX K Z ph' H' cls dd x → E cls dd H')
/-- what a call's wish of exceptions is, at the caller's slots -/
abbrev Yc.at (y : Yc) (σ : L2.St) : XK := fun cls d H => y.W cls d σ H
variable {n k : Nat} {f : Addr} {fd : FuncData} {ps : List Str} {nm : Str} {p : Pos} {g : List D → M → O1}
/-- from the wish of a call's end to the callee's promise -/
def EndR (h : M → O1 → O1) : Prop := ∀ (K : PySem.W.Frag) (y : Yc) (Z : Addr → Prop) (ph : List Addr) (H : Hp) (σ : L2.St) (m : M) (r : O1) (Q : VK), Wd K Z ph m H → FinG K y Z ph H σ (h m r) (fun d _ ph' H' => ∀ u, RepV K Z ph' H' u d → Q u H') →
  (match r with
    | .no => False
    | .ok d m' => PV K Z ph H m' d Q
    | .ex x m' => ∀ ph' H' cls dd, Sx ph H ph' H' → Wd K Z ph' m' H' → RepX K Z ph' H' cls dd x → y.at σ cls dd H')
theorem end_id : EndR fun _ r => r := fun K y Z ph H σ m r Q w q => by
  cases r with
  | no => exact q
  | ok d m' => exact q.okv
  | ex x m' => exact q
theorem end_gc : EndR gcD := fun K y Z ph H σ m r Q w0 q => by
  cases r with
  | no => exact q
  | ok d m' =>
    simp only [gcD] at q
    split at q
    · rename_i hk
      simp only [Bool.and_eq_true] at hk
      intro ph' H' u s w r
      obtain ⟨more, e⟩ := s.ext
      subst e
      exact q ph H' s.cut (w0.cut w hk.1) u (r.cut (by rw [w0.len]; exact hk.2))
    · exact q.elim
  | ex x m' =>
    simp only [gcD] at q
    split at q
    · rename_i hk
      simp only [Bool.and_eq_true] at hk
      intro ph' H' cls dd s w r
      obtain ⟨more, e⟩ := s.ext
      subst e
      exact q ph H' cls dd s.cut (w0.cut w hk.1) (r.cut (by rw [w0.len]; exact hk.2))
    · exact q.elim
theorem end_fresh : EndR freshD := fun K y Z ph H σ m r Q w0 q => by
  cases r with
  | no => exact q
  | ok d m' =>
    simp only [freshD] at q
    split at q
    · rename_i l
      split at q
      · rename_i xs hx
        split at q
        · rename_i hc
          obtain ⟨c1, c2, c3⟩ := hc
          intro ph' H' u s w r
          obtain ⟨more, e⟩ := s.ext
          subst e
          cases r with
          | @ref a _ ha _ =>
          obtain ⟨b, vs', e1, e2, r2⟩ := w.obj l xs hx
          rw [ha] at e1
          cases e1
          have hnd := List.nodup_append.mp w.nd
          have hmore : a ∈ more := by
            rw [List.getElem?_append_right (by rw [w0.len]; exact c1)] at ha
            exact List.mem_of_getElem? ha
          have hnp : a ∉ ph := fun q => hnd.2.2 a q a hmore rfl
          have hnz : ¬ Z a := fun hz => by
            obtain ⟨o, ho⟩ := w0.zin a hz
            rcases s.new a (List.mem_append_right _ hmore) with q | q
            · exact hnp q
            · rw [ho] at q; cases q
          exact q ph H' s.cut (w0.cut w c3) (.ref a) (.lst e2 hnp hnz (r2.cut (belows_pure _ c2)))
        · exact q.elim
      · exact q.elim
    · exact q.elim
  | ex x m' =>
    simp only [freshD] at q
    split at q
    · rename_i hk
      simp only [Bool.and_eq_true] at hk
      intro ph' H' cls dd s w r
      obtain ⟨more, e⟩ := s.ext
      subst e
      exact q ph H' cls dd s.cut (w0.cut w hk.1) (r.cut (by rw [w0.len]; exact hk.2))
    · exact q.elim
/-- what is done at a call's end with nothing told is nothing -/
def EndN (h : M → O1 → O1) : Prop := ∀ m, h m .no = .no
def rCall_ (h : M → O1 → O1) (g : List D → M → O1) (rs : RA) : RE := fun env m => (rs env m).bind fun ds m => h m (g ds m)
theorem n_call {h : M → O1 → O1} (he : EndR h) (hn : EndN h) (tk : Takes X y_.W) (F : FnK X.prog X.w X.K X.mg X.base n f fd ps (spF X.K k g)) (hk : ∀ ds m, g ds m ≠ .no → ds.length = k) (hr : Rm n X.A) (hg : Gl X nm) (hm : X.mg nm = some (.ref f)) (hkp : PySem.W.keepIn X.K (.ref f) = true) (hb : Binds X.K fd ps [])
    (ha : PA X xs (tEvA X.K y_ rs)) (hst : ∀ z zs, xs = z :: zs → starEach (z :: zs) X.env = (false, eval z X.env) :: starEach zs X.env) (hpl : ∀ z zs, xs = z :: zs → (backTo pos (starEach zs X.env)).any (·.1) = false) (hnil : xs = [] → rs = fun _ m => .ok [] m) (hdb : (nm == ("__debug__" : Str)) = false) :
    PE X (.Call (.Name nm p) xs [] pos) (tEv X.K y_ (rCall_ h g rs)) := by
  have key : ∀ {σ : L2.St} {H : Hp} {Q : VK} {Z ph env m} {ds : List D} {vs : List V}, RepE X.K y_ Z ph H σ env → Wd X.K Z ph m H → RepVs X.K Z ph H vs ds → FinG X.K y_ Z ph H σ (h m (g ds m)) (fun d _ ph' H' => ∀ u, RepV X.K Z ph' H' u d → Q u H') → spF X.K k g vs H Q (y_.at σ) := fun {σ H Q Z ph env m ds vs} re wd r q => by
    refine ⟨by rw [r.len]; exact hk ds m (fun e => by rw [e, hn] at q; exact q.elim), Z, ph, m, ds, r, wd, he _ _ _ _ _ _ _ _ _ wd q⟩
  cases xs with
  | nil =>
    refine pe_imp (k_call0 (W := y_.W) tk F hr hg hm hkp hb hdb) fun σ H Q ⟨Z, ph, env, m, re, wd, q⟩ => ?_
    rw [hnil rfl] at q
    exact key re wd .nil q
  | cons z zs => exact pe_imp (k_call (W := y_.W) tk F hr hg hm hkp hb ha hdb (hst z zs rfl) (hpl z zs rfl)) fun σ H Q ⟨Z, ph, env, m, re, wd, q⟩ => eva_bind re wd q fun ds m1 ph1 H1 vs s1 w1 re1 r1 q => key re1 w1 r1 q

def rCallD_ (h : M → O1 → O1) (g : List D → M → O1) (dfs : List D) (rs : RA) : RE := fun env m => (rs env m).bind fun ds m => h m (g (ds ++ dfs) m)
theorem n_callD {us0 : List Value} {vs0 : List V} {dfs : List D} {h : M → O1 → O1} (he : EndR h) (hn : EndN h) (tk : Takes X y_.W) (F : FnK X.prog X.w X.K X.mg X.base n f fd ps (spF X.K k g)) (hk : ∀ ds m, g ds m ≠ .no → ds.length = k) (hr : RmB n X.A) (hg : Gl X nm) (hm : X.mg nm = some (.ref f)) (hkp : PySem.W.keepIn X.K (.ref f) = true) (hb : Binds X.K fd ps us0) (hv : Vals vs0 us0) (hd : ∀ Z ph H, RepVs X.K Z ph H vs0 dfs)
    (ha : PA X xs (tEvA X.K y_ rs)) (hst : ∀ z zs, xs = z :: zs → starEach (z :: zs) X.env = (false, eval z X.env) :: starEach zs X.env) (hpl : ∀ z zs, xs = z :: zs → (backTo pos (starEach zs X.env)).any (·.1) = false) (hnil : xs = [] → rs = fun _ m => .ok [] m) (hdb : (nm == ("__debug__" : Str)) = false) :
    PE X (.Call (.Name nm p) xs [] pos) (tEv X.K y_ (rCallD_ h g dfs rs)) := by
  have key : ∀ {σ : L2.St} {H : Hp} {Q : VK} {Z ph env m} {ds : List D} {vs : List V}, RepE X.K y_ Z ph H σ env → Wd X.K Z ph m H → RepVs X.K Z ph H vs ds → FinG X.K y_ Z ph H σ (h m (g (ds ++ dfs) m)) (fun d _ ph' H' => ∀ u, RepV X.K Z ph' H' u d → Q u H') → spF X.K k g (vs ++ vs0) H Q (y_.at σ) := fun {σ H Q Z ph env m ds vs} re wd r q => by
    have r' := r.append (hd Z ph H)
    refine ⟨by rw [r'.len]; exact hk (ds ++ dfs) m (fun e => by rw [e, hn] at q; exact q.elim), Z, ph, m, ds ++ dfs, r', wd, he _ _ _ _ _ _ _ _ _ wd q⟩
  cases xs with
  | nil =>
    refine pe_imp (k_callD0 (W := y_.W) tk F hr.rm hg hm hkp hb hv hdb) fun σ H Q ⟨Z, ph, env, m, re, wd, q⟩ => ?_
    rw [hnil rfl] at q
    exact key re wd .nil q
  | cons z zs => exact pe_imp (k_callD (W := y_.W) tk F hr.rm hg hm hkp hb hv ha hdb (hst z zs rfl) (hpl z zs rfl)) fun σ H Q ⟨Z, ph, env, m, re, wd, q⟩ => eva_bind re wd q fun ds m1 ph1 H1 vs s1 w1 re1 r1 q => key re1 w1 r1 q
theorem end_mode : ∀ md : CM, EndR (hMode md)
  | .pl => end_id
  | .gc => end_gc
  | .fr => end_fresh
theorem mode_no : ∀ md : CM, EndN (hMode md)
  | .pl => fun _ => rfl
  | .gc => fun _ => rfl
  | .fr => fun _ => rfl

/-! ### built-in functions -/
def rBi_ (b : BI) (rs : RA) : RE := fun env m => (rs env m).bind fun ds m => .of (biD m b ds) m
def rGB (K : PySem.W.Frag) (g : M → List D → Option D) : List V → Hp → VK → Prop := fun vs H Q => ∃ Z ph m ds z, Wd K Z ph m H ∧ RepVs K Z ph H vs ds ∧ g m ds = some z ∧ PV K Z ph H m z Q
def rGBN (K : PySem.W.Frag) (g : M → List D → Option D) : List V → Hp → VK → Prop := fun vs H Q => ∃ Z ph m ds zs, Wd K Z ph m H ∧ RepVs K Z ph H vs ds ∧ g m ds = some (.lst zs) ∧ NP K Z ph H m zs Q
theorem bi_run {σ : L2.St} {H : Hp} {Q : VK} {b : BI} (h : tEv X.K y_ (rBi_ b rs) σ H Q) : tCB (rGB X.K fun m ds => biD m b ds) (tEvA X.K y_ rs) σ H Q := by
  obtain ⟨Z, ph, env, m, re, wd, q⟩ := h
  exact eva_bind re wd q fun ds m1 ph1 H1 vs s1 w1 re1 r1 q => by
    obtain ⟨z, hz, q⟩ := q.pv
    exact ⟨Z, ph1, m1, ds, z, w1, r1, hz, q⟩
theorem bi_runN {σ : L2.St} {H : Hp} {Q : VK} {b : BI} (h : tEvN X.K y_ (rBi_ b rs) σ H Q) : tCB (rGBN X.K fun m ds => biD m b ds) (tEvA X.K y_ rs) σ H Q := by
  obtain ⟨Z, ph, env, m, re, wd, q⟩ := h
  exact ⟨Z, ph, env, m, re, wd, q.bind fun ds m1 ph1 H1 s1 w1 q vs r1 => by
    obtain ⟨zs, hz, q⟩ := q.of
    exact ⟨Z, ph1, m1, ds, zs, w1, r1, hz, q⟩⟩
theorem rep1 {K : PySem.W.Frag} {Z : Addr → Prop} {ph : List Addr} {H : Hp} {vs : List V} {d : D} (r : RepVs K Z ph H vs [d]) : ∃ v, vs = [v] ∧ RepV K Z ph H v d := by
  cases r with | cons h r => cases r; exact ⟨_, rfl, h⟩
theorem rep2 {K : PySem.W.Frag} {Z : Addr → Prop} {ph : List Addr} {H : Hp} {vs : List V} {d e : D} (r : RepVs K Z ph H vs [d, e]) : ∃ v w, vs = [v, w] ∧ RepV K Z ph H v d ∧ RepV K Z ph H w e := by
  cases r with | cons h r => cases r with | cons h' r => cases r; exact ⟨_, _, rfl, h, h'⟩
theorem c_len : CallR X (.builtin "len") (rGB X.K fun m ds => biD m .len ds) := by
  intro pins s σ H vs us Q I r h
  obtain ⟨Z, ph, m, ds, z, wd, rs, hz, q⟩ := h
  match ds, rs, hz with
  | [d], rs, hz =>
    obtain ⟨v, rfl, rv⟩ := rep1 rs
    obtain ⟨n, hn, rfl⟩ := Option.map_eq_some_iff.mp hz
    refine call_len pins s σ H _ us Q I r ?_
    unfold lenD at hn
    split at hn
    · rename_i xs e
      cases hn
      obtain ⟨a, ws, rfl, h1, r1⟩ := rd_tup rv e
      exact ⟨_, ws.length, rfl, .inr ⟨ws, h1, rfl⟩, by rw [r1.len]; exact q.here wd (.int _)⟩
    · rename_i xs e
      cases hn
      obtain ⟨a, ws, rfl, h1, r1⟩ := rd_lst wd rv e
      exact ⟨_, ws.length, rfl, .inl ⟨ws, SqL.of h1, rfl⟩, by rw [r1.len]; exact q.here wd (.int _)⟩
    · rename_i xs e
      cases hn
      obtain ⟨a, ws, rfl, h1, r1⟩ := rd_frz rv e
      exact ⟨_, ws.length, rfl, .inl ⟨ws, h1.sqL, rfl⟩, by rw [r1.len]; exact q.here wd (.int _)⟩
    · rename_i z e
      split at hn
      · rename_i hl
        cases hn
        obtain rfl := rd_str rv e
        exact ⟨_, z.length, rfl, ⟨by rw [← lim_eq]; exact hl, rfl⟩, q.here wd (.int _)⟩
      · cases hn
    · cases hn
theorem c_int : CallR X (.type "int") (rGB X.K fun m ds => biD m .int ds) := by
  intro pins s σ H vs us Q I r h
  obtain ⟨Z, ph, m, ds, z, wd, rs, hz, q⟩ := h
  match ds, rs, hz with
  | [.int i], rs, hz =>
    obtain ⟨v, rfl, rv⟩ := rep1 rs
    cases rv; cases hz
    exact call_int1 pins s σ H _ us Q I r (.inl ⟨_, rfl, q.here wd (.int _)⟩)
  | [.bl b], rs, hz =>
    obtain ⟨v, rfl, rv⟩ := rep1 rs
    cases rv; cases hz
    exact call_int1 pins s σ H _ us Q I r (.inr ⟨_, rfl, q.here wd (.int _)⟩)
theorem c_tuple : CallR X (.type "tuple") (rGB X.K fun m ds => biD m .tuple ds) := by
  intro pins s σ H vs us Q I r h
  obtain ⟨Z, ph, m, ds, z, wd, rs, hz, q⟩ := h
  match ds, rs, hz with
  | [d], rs, hz =>
    obtain ⟨v, rfl, rv⟩ := rep1 rs
    obtain ⟨xs, hn, rfl⟩ := Option.map_eq_some_iff.mp hz
    obtain ⟨a, ws, rfl, h1, r1⟩ := rd_seq wd rv hn
    refine call_tuple_of pins s σ H _ us Q I r ⟨a, ws, rfl, ?_⟩
    rcases h1 with h1 | h1
    · exact .inl ⟨h1, fun l hl => q.tup wd hl r1⟩
    · exact .inr ⟨h1, q.here wd (.tup h1 r1)⟩
theorem signs_rep {K : PySem.W.Frag} {Z : Addr → Prop} {ph : List Addr} {H : Hp} : ∀ (l : List Nat), RepVs K Z ph H (l.map fun c => V.str ⟨#[c]⟩) (l.map fun c => D.str ⟨#[c]⟩)
  | [] => .nil
  | c :: l => .cons (.str _) (signs_rep l)
theorem c_listN (hc : X.calm = true) : CallR X (.type "list") (rGBN X.K fun m ds => biD m .list ds) := by
  intro pins s σ H vs us Q I r h
  obtain ⟨Z, ph, m, ds, z, wd, rs, hz, q⟩ := h
  match ds, rs, hz with
  | [.str x], rs, hz =>
    obtain ⟨v, rfl, rv⟩ := rep1 rs
    cases rv
    simp only [biD] at hz
    split at hz
    · rename_i hl
      cases hz
      exact cr_listS hc pins s σ H _ us Q I r ⟨x, rfl, by rw [← lim_eq]; exact hl, fun l hl => q.upd wd hl (signs_rep _)⟩
    · cases hz
  | [.non], rs, hz | [.bl _], rs, hz | [.int _], rs, hz | [.tup _], rs, hz | [.lst _], rs, hz | [.frz _], rs, hz | [.ref _], rs, hz | [.obj _], rs, hz | [.dic _], rs, hz | [.gl _], rs, hz =>
    obtain ⟨v, rfl, rv⟩ := rep1 rs
    simp only [biD] at hz
    obtain ⟨xs, hn, e⟩ := Option.map_eq_some_iff.mp hz
    cases e
    obtain ⟨a, ws, rfl, h1, r1⟩ := rd_seq wd rv hn
    exact call_list_of pins s σ H _ us Q I r ⟨a, ws, rfl, h1, fun l hl => q.upd wd hl r1⟩
theorem biD_list {m : M} {ds : List D} {z : D} (h : biD m .list ds = some z) : ∃ zs, z = .lst zs := by
  match ds, h with
  | [.str x], h =>
    simp only [biD] at h
    split at h
    · cases h; exact ⟨_, rfl⟩
    · cases h
  | [.non], h | [.bl _], h | [.int _], h | [.tup _], h | [.lst _], h | [.frz _], h | [.ref _], h | [.obj _], h | [.dic _], h | [.gl _], h =>
    simp only [biD] at h
    obtain ⟨xs, hn, e⟩ := Option.map_eq_some_iff.mp h
    exact ⟨xs, e.symm⟩
theorem c_list (hc : X.calm = true) : CallR X (.type "list") (rGB X.K fun m ds => biD m .list ds) := by
  intro pins s σ H vs us Q I r h
  obtain ⟨Z, ph, m, ds, z, wd, rs, hz, q⟩ := h
  obtain ⟨zs, rfl⟩ := biD_list hz
  exact c_listN hc pins s σ H vs us Q I r ⟨Z, ph, m, ds, zs, wd, rs, hz, q.np wd⟩
theorem c_str : CallR X (.type "str") (rGB X.K fun m ds => biD m .str ds) := by
  intro pins s σ H vs us Q I r h
  obtain ⟨Z, ph, m, ds, z, wd, rs, hz, q⟩ := h
  match ds, rs, hz with
  | [.int i], rs, hz =>
    obtain ⟨v, rfl, rv⟩ := rep1 rs
    cases rv
    simp only [biD] at hz
    split at hz
    · rename_i hl
      cases hz
      exact call_str_int pins s σ H _ us Q I r ⟨i, rfl, hl, q.here wd (.str _)⟩
    · cases hz
theorem ints_rep {K : PySem.W.Frag} {Z : Addr → Prop} {ph : List Addr} {H : Hp} : ∀ {ds : List D} {ns : List Int} {vs : List V}, intsD ds = some ns → RepVs K Z ph H vs ds → vs = ns.map V.int
  | [], ns, vs, h, r => by cases h; cases r; rfl
  | d :: ds, ns, vs, h, r => by
    cases r with
    | cons h0 r =>
      cases d <;> simp only [intsD] at h <;> try cases h
      obtain ⟨ms, h1, rfl⟩ := Option.map_eq_some_iff.mp h
      cases h0
      rw [ints_rep h1 r]
      rfl
theorem ints_back {K : PySem.W.Frag} {Z : Addr → Prop} {ph : List Addr} {H : Hp} : ∀ (ns : List Int), RepVs K Z ph H (ns.map V.int) (ns.map D.int)
  | [] => .nil
  | n :: ns => .cons (.int n) (ints_back ns)
theorem bools_rep {K : PySem.W.Frag} {Z : Addr → Prop} {ph : List Addr} {H : Hp} : ∀ {ds : List D} {ns : List Bool} {vs : List V}, bools ds = some ns → RepVs K Z ph H vs ds → vs = ns.map V.bl
  | [], ns, vs, h, r => by cases h; cases r; rfl
  | d :: ds, ns, vs, h, r => by
    cases r with
    | cons h0 r =>
      cases d <;> simp only [bools] at h <;> try cases h
      obtain ⟨ms, h1, rfl⟩ := Option.map_eq_some_iff.mp h
      cases h0
      rw [bools_rep h1 r]
      rfl
theorem c_sum (hc : X.calm = true) : CallR X (.builtin "sum") (rGB X.K fun m ds => biD m .sum ds) := by
  intro pins s σ H vs us Q I r h
  obtain ⟨Z, ph, m, ds, z, wd, rs, hz, q⟩ := h
  match ds, rs, hz with
  | [d], rs, hz =>
    obtain ⟨v, rfl, rv⟩ := rep1 rs
    simp only [biD] at hz
    split at hz
    · rename_i xs e
      obtain ⟨ns, hn, rfl⟩ := Option.map_eq_some_iff.mp hz
      obtain ⟨a, ws, rfl, h1, r1⟩ := rd_lst wd rv e
      rw [ints_rep hn r1] at h1
      exact cr_sum hc pins s σ H _ us Q I r ⟨a, ns, rfl, SqL.of h1, q.here wd (.int _)⟩
    · cases hz
theorem c_all (hc : X.calm = true) : CallR X (.builtin "all") (rGB X.K fun m ds => biD m .all ds) := by
  intro pins s σ H vs us Q I r h
  obtain ⟨Z, ph, m, ds, z, wd, rs, hz, q⟩ := h
  match ds, rs, hz with
  | [d], rs, hz =>
    obtain ⟨v, rfl, rv⟩ := rep1 rs
    simp only [biD] at hz
    split at hz
    · rename_i xs e
      obtain ⟨ns, hn, rfl⟩ := Option.map_eq_some_iff.mp hz
      obtain ⟨a, ws, rfl, h1, r1⟩ := rd_lst wd rv e
      rw [bools_rep hn r1] at h1
      exact cr_all hc pins s σ H _ us Q I r ⟨a, ns, rfl, SqL.of h1, q.here wd (.bl _)⟩
    · cases hz
theorem c_any (hc : X.calm = true) : CallR X (.builtin "any") (rGB X.K fun m ds => biD m .any ds) := by
  intro pins s σ H vs us Q I r h
  obtain ⟨Z, ph, m, ds, z, wd, rs, hz, q⟩ := h
  match ds, rs, hz with
  | [d], rs, hz =>
    obtain ⟨v, rfl, rv⟩ := rep1 rs
    simp only [biD] at hz
    split at hz
    · rename_i xs e
      obtain ⟨ns, hn, rfl⟩ := Option.map_eq_some_iff.mp hz
      obtain ⟨a, ws, rfl, h1, r1⟩ := rd_lst wd rv e
      rw [bools_rep hn r1] at h1
      exact cr_any hc pins s σ H _ us Q I r ⟨a, ns, rfl, SqL.of h1, q.here wd (.bl _)⟩
    · cases hz
theorem c_max2 (hc : X.calm = true) : CallR X (.builtin "max") (rGB X.K fun m ds => biD m .max2 ds) := by
  intro pins s σ H vs us Q I r h
  obtain ⟨Z, ph, m, ds, z, wd, rs, hz, q⟩ := h
  match ds, rs, hz with
  | [.int i, .int j], rs, hz =>
    obtain ⟨v, w, rfl, rv, rw'⟩ := rep2 rs
    cases rv; cases rw'; cases hz
    exact call_max2 hc pins s σ H _ us Q I r ⟨_, _, rfl, q.here wd (.int _)⟩
theorem c_min2 (hc : X.calm = true) : CallR X (.builtin "min") (rGB X.K fun m ds => biD m .min2 ds) := by
  intro pins s σ H vs us Q I r h
  obtain ⟨Z, ph, m, ds, z, wd, rs, hz, q⟩ := h
  match ds, rs, hz with
  | [.int i, .int j], rs, hz =>
    obtain ⟨v, w, rfl, rv, rw'⟩ := rep2 rs
    cases rv; cases rw'; cases hz
    exact call_min2 hc pins s σ H _ us Q I r ⟨_, _, rfl, q.here wd (.int _)⟩
theorem c_sorted : CallR X (.builtin "sorted") (rGB X.K fun m ds => biD m .sorted ds) := by
  intro pins s σ H vs us Q I r h
  obtain ⟨Z, ph, m, ds, z, wd, rs, hz, q⟩ := h
  match ds, rs, hz with
  | [d], rs, hz =>
    obtain ⟨v, rfl, rv⟩ := rep1 rs
    simp only [biD] at hz
    obtain ⟨xs, hx, hz⟩ := Option.bind_eq_some_iff.mp hz
    obtain ⟨ns, hn, rfl⟩ := Option.map_eq_some_iff.mp hz
    obtain ⟨a, ws, rfl, h1, r1⟩ := rd_seq wd rv hx
    have ew := ints_rep hn r1
    subst ew
    have fin : ∀ (ns' : List Int) (p : Addr), ns'.Perm ns → ns'.Pairwise (· ≤ ·) → H p = none → Q (.ref p) (upd H p (.lst (ns'.map V.int))) := fun ns' p p1 p2 hp => by
      have e : ns' = sortD ns := sort_uniq (p1.trans (sortD_perm ns).symm) p2 (sortD_sorted ns)
      subst e
      exact (q.np wd).upd wd hp (ints_back _)
    rcases h1 with h1 | h1
    · exact cr_sortedI pins s σ H _ us Q I r ⟨a, ns, rfl, h1, fin⟩
    · exact cr_srtT pins s σ H _ us Q I r ⟨a, ns, rfl, h1, fin⟩
theorem c_min1 (hc : X.calm = true) : CallR X (.builtin "min") (rGB X.K fun m ds => biD m .min1 ds) := by
  intro pins s σ H vs us Q I r h
  obtain ⟨Z, ph, m, ds, z, wd, rs, hz, q⟩ := h
  match ds, rs, hz with
  | [d], rs, hz =>
    obtain ⟨v, rfl, rv⟩ := rep1 rs
    simp only [biD] at hz
    split at hz
    · rename_i xs e
      obtain ⟨ns, hn, hz⟩ := Option.bind_eq_some_iff.mp hz
      obtain ⟨k, hk, rfl⟩ := Option.map_eq_some_iff.mp hz
      obtain ⟨a, ws, rfl, h1, r1⟩ := rd_lst wd rv e
      rw [ints_rep hn r1] at h1
      obtain ⟨l1, l2⟩ := least_ok hk
      refine cr_min hc pins s σ H _ us Q I r ⟨a, ns, rfl, SqL.of h1, List.length_pos_of_mem l1, fun j j1 j2 => ?_⟩
      rw [show j = k from Int.le_antisymm (j2 k l1) (l2 j j1)]
      exact q.here wd (.int _)
    · cases hz
theorem c_max1 (hc : X.calm = true) : CallR X (.builtin "max") (rGB X.K fun m ds => biD m .max1 ds) := by
  intro pins s σ H vs us Q I r h
  obtain ⟨Z, ph, m, ds, z, wd, rs, hz, q⟩ := h
  match ds, rs, hz with
  | [d], rs, hz =>
    obtain ⟨v, rfl, rv⟩ := rep1 rs
    simp only [biD] at hz
    split at hz
    · rename_i xs e
      obtain ⟨ns, hn, hz⟩ := Option.bind_eq_some_iff.mp hz
      obtain ⟨k, hk, rfl⟩ := Option.map_eq_some_iff.mp hz
      obtain ⟨a, ws, rfl, h1, r1⟩ := rd_lst wd rv e
      rw [ints_rep hn r1] at h1
      obtain ⟨l1, l2⟩ := most_ok hk
      refine cr_max hc pins s σ H _ us Q I r ⟨a, ns, rfl, SqL.of h1, List.length_pos_of_mem l1, fun j j1 j2 => ?_⟩
      rw [show j = k from Int.le_antisymm (l2 j j1) (j2 k l1)]
      exact q.here wd (.int _)
    · cases hz
def biNm : BI → Str
  | .len => "len"
  | .int => "int"
  | .tuple => "tuple"
  | .list => "list"
  | .sum => "sum"
  | .all => "all"
  | .any => "any"
  | .max2 => "max"
  | .min2 => "min"
  | .sorted => "sorted"
  | .min1 => "min"
  | .max1 => "max"
  | .str => "str"
/-- the built-ins that want that nothing is handled -/
def calmB : BI → Bool
  | .list => true
  | .sum => true
  | .all => true
  | .any => true
  | .max2 => true
  | .min2 => true
  | .min1 => true
  | .max1 => true
  | _ => false
theorem n_bi {b : BI} {z : Expr} {zs : List Expr} (hc : calmB b = true → X.calm = true) (hg : Gl X (biNm b)) (hm : X.mg (biNm b) = none) (ha : PA X (z :: zs) (tEvA X.K y_ rs))
    (he : starEach (z :: zs) X.env = (false, eval z X.env) :: starEach zs X.env) (hpl : (backTo pos (starEach zs X.env)).any (·.1) = false) :
    PE X (.Call (.Name (biNm b) p) (z :: zs) [] pos) (tEv X.K y_ (rBi_ b rs)) := by
  cases b
  · exact pe_imp (pe_callB c_len hg hm (by decide +kernel) ha (by decide) (by decide) he hpl) fun _ _ _ h => bi_run h
  · exact pe_imp (pe_callTy c_int hg hm (by decide +kernel) ha (by decide) (by decide) he hpl) fun _ _ _ h => bi_run h
  · exact pe_imp (pe_callTy c_tuple hg hm (by decide +kernel) ha (by decide) (by decide) he hpl) fun _ _ _ h => bi_run h
  · exact pe_imp (pe_callTy (c_list (hc rfl)) hg hm (by decide +kernel) ha (by decide) (by decide) he hpl) fun _ _ _ h => bi_run h
  · exact pe_imp (pe_callB (c_sum (hc rfl)) hg hm (by decide +kernel) ha (by decide) (by decide) he hpl) fun _ _ _ h => bi_run h
  · exact pe_imp (pe_callB (c_all (hc rfl)) hg hm (by decide +kernel) ha (by decide) (by decide) he hpl) fun _ _ _ h => bi_run h
  · exact pe_imp (pe_callB (c_any (hc rfl)) hg hm (by decide +kernel) ha (by decide) (by decide) he hpl) fun _ _ _ h => bi_run h
  · exact pe_imp (pe_callB (c_max2 (hc rfl)) hg hm (by decide +kernel) ha (by decide) (by decide) he hpl) fun _ _ _ h => bi_run h
  · exact pe_imp (pe_callB (c_min2 (hc rfl)) hg hm (by decide +kernel) ha (by decide) (by decide) he hpl) fun _ _ _ h => bi_run h
  · exact pe_imp (pe_callB c_sorted hg hm (by decide +kernel) ha (by decide) (by decide) he hpl) fun _ _ _ h => bi_run h
  · exact pe_imp (pe_callB (c_min1 (hc rfl)) hg hm (by decide +kernel) ha (by decide) (by decide) he hpl) fun _ _ _ h => bi_run h
  · exact pe_imp (pe_callB (c_max1 (hc rfl)) hg hm (by decide +kernel) ha (by decide) (by decide) he hpl) fun _ _ _ h => bi_run h
  · exact pe_imp (pe_callTy c_str hg hm (by decide +kernel) ha (by decide) (by decide) he hpl) fun _ _ _ h => bi_run h
theorem n_listN {z : Expr} {zs : List Expr} (hc : X.calm = true) (hg : Gl X "list") (hm : X.mg "list" = none) (ha : PA X (z :: zs) (tEvA X.K y_ rs))
    (he : starEach (z :: zs) X.env = (false, eval z X.env) :: starEach zs X.env) (hpl : (backTo pos (starEach zs X.env)).any (·.1) = false) :
    PE X (.Call (.Name "list" p) (z :: zs) [] pos) (tEvN X.K y_ (rBi_ .list rs)) :=
  pe_imp (pe_callTy (c_listN hc) hg hm (by decide +kernel) ha (by decide) (by decide) he hpl) fun _ _ _ h => bi_runN h
end
end Pv

namespace Pv
open PySem L2
variable [TabT]
section
variable {X : Cx} {y_ : Yc} {x y w : Expr} {pos p p2 apos : Pos} {ra rb rc : RE}
/-! ### isinstance -/
def tyS : Ty → String
  | .int => "int" | .bool => "bool" | .str => "str" | .tuple => "tuple"
def tyNm : Ty → Str
  | .int => "int" | .bool => "bool" | .str => "str" | .tuple => "tuple"
def dTy : D → Option String
  | .non => some "NoneType" | .bl _ => some "bool" | .int _ => some "int" | .str _ => some "str" | .tup _ => some "tuple" | .lst _ => some "list" | _ => none
theorem rep_ty {K : PySem.W.Frag} {Z : Addr → Prop} {ph : List Addr} {H : Hp} {v : V} {d : D} {t : String} (r : RepV K Z ph H v d) (h : dTy d = some t) : TyX K H v (.type t) := by
  cases r with
  | non => cases h; exact .base .non
  | bl b => cases h; exact .base (.bl b)
  | int i => cases h; exact .base (.int i)
  | str x => cases h; exact .base (.str x)
  | tup h1 r =>
    cases h
    rcases h1 with (h1 | ⟨o, h1⟩) | ⟨o, its, n, h1, h2, _⟩
    · exact .base (.tup h1)
    · exact .fTuple h1
    · exact .kTuple h1 h2
  | lst h1 n z r => cases h; exact .base (.lst h1)
  | frz h1 r => cases h
  | ref h1 _ => cases h
  | obj h1 _ => cases h
  | dic h1 _ => cases h
  | gl h1 => cases h
theorem isi_kit {d : D} {t : Ty} {k : Bool} (h : isiD d t = some k) : ∃ s, dTy d = some s ∧ kitB s (tyS t) = some k := by
  cases d <;> cases t <;> simp only [isiD] at h <;> first | (cases h; refine ⟨_, rfl, ?_⟩; decide +kernel) | cases h
def rIsi_ (ra : RE) (t : Ty) : RE := fun env m => (ra env m).bind fun x m => .of ((isiD x t).map .bl) m
theorem n_isi {t : Ty} (hg : Gl X "isinstance") (hm : X.mg "isinstance" = none) (hg2 : Gl X (tyNm t)) (hm2 : X.mg (tyNm t) = none) (ha : PE X x (tEv X.K y_ ra)) (hs : ∀ zs, starEach (x :: zs) X.env = (false, eval x X.env) :: starEach zs X.env) :
    PE X (.Call (.Name "isinstance" p) [x, .Name (tyNm t) p2] [] pos) (tEv X.K y_ (rIsi_ ra t)) := by
  have hb : PE X (.Name (tyNm t) p2) (tC (.ty (tyS t))) := by
    cases t <;> exact pe_bltn hg2 hm2 (by decide +kernel) rfl (by decide) (by decide)
  refine pe_imp (pe_callB call_isi hg hm (by decide +kernel) (pa_cons ha (pa_cons hb pa_nil rfl) (hs _)) (by decide) (by decide) (hs _) rfl) fun σ H Q ⟨Z, ph, env, m, re, wd, q⟩ => ev_bind re wd q fun d m1 ph1 H1 v s1 w1 re1 r1 q => ?_
  obtain ⟨z, hz, q⟩ := q.pv
  obtain ⟨k, h2, rfl⟩ := Option.map_eq_some_iff.mp hz
  obtain ⟨s, h3, h4⟩ := isi_kit h2
  exact ⟨v, .ty (tyS t), .type s, .type (tyS t), k, rfl, .ty _, rep_ty r1 h3, kit_ty h4, q.here w1 (.bl _)⟩

/-! ### list(range(n)) -/
theorem rep_range {K : PySem.W.Frag} {Z : Addr → Prop} {ph : List Addr} {H : Hp} (lo : Int) : ∀ n : Nat, RepVs K Z ph H ((List.range n).map fun (i : Nat) => V.int (lo + (i : Int))) (rangeD lo n) := by
  intro n
  unfold rangeD
  generalize List.range n = l
  induction l with
  | nil => exact .nil
  | cons a l ih => exact .cons (.int _) ih
def rListRg_ (ra : RE) : RE := fun env m => (ra env m).bind fun x m => .of (listRgD x) m
theorem n_listRgN (hc : X.calm = true) (hg : Gl X "list") (hm : X.mg "list" = none) (hg2 : Gl X "range") (hm2 : X.mg "range" = none) (ha : PE X x (tEv X.K y_ ra)) (hs : starEach [x] X.env = (false, eval x X.env) :: starEach [] X.env) :
    PE X (.Call (.Name "list" p) [.Call (.Name "range" p2) [x] [] apos] [] pos) (tEvN X.K y_ (rListRg_ ra)) :=
  pe_imp (pe_listRg hc hg hm (prg_1 hg2 hm2 ha hs) rfl) fun σ H Q ⟨Z, ph, env, m, re, wd, q⟩ => ⟨Z, ph, env, m, re, wd, q.bind fun d m1 ph1 H1 s1 w1 q v r1 => by
    obtain ⟨ds, hz, q⟩ := q.of
    cases d <;> simp only [listRgD] at hz <;> try cases hz
    rename_i n
    cases r1
    split at hz
    · rename_i hk
      simp only [rgOk, Bool.and_eq_true, decide_eq_true_eq] at hk
      cases hz
      refine ⟨n, rfl, ⟨by omega, by omega, hk.1.1, hk.1.2, ?_⟩, fun l hl => ?_⟩
      · have := hk.2
        unfold lim at this
        show (n - 0).toNat ≤ 2 ^ 24
        rw [Int.sub_zero]
        omega
      · have := rep_range (K := X.K) (Z := Z) (ph := ph1) (H := H1) 0 n.toNat
        have e : rgV 0 n = (List.range n.toNat).map fun (i : Nat) => V.int (0 + (i : Int)) := by unfold rgV; rw [Int.sub_zero]
        rw [e]
        exact q.upd w1 hl this
    · cases hz⟩
theorem of_lst {α : Type} {r : Rz α} {f : α → M → O1} {d : D} {m : M} (h : r.bind f = .ok d m) : ∃ a m1, r = .ok a m1 ∧ f a m1 = .ok d m := by
  cases r with
  | no => cases h
  | ex x m => cases h
  | ok a m1 => exact ⟨a, m1, rfl, h⟩
theorem of_some {o : Option D} {d : D} {m m' : M} (h : Rz.of o m = .ok d m') : o = some d := by
  cases o with
  | none => cases h
  | some a => cases h; rfl
theorem rListRg_lst {env : Env} {m m' : M} {d : D} (h : rListRg_ ra env m = .ok d m') : ∃ ds, d = .lst ds := by
  obtain ⟨a, m1, h1, e⟩ := of_lst h
  have e := of_some e
  cases a <;> simp only [listRgD] at e <;> try cases e
  split at e
  · cases e; exact ⟨_, rfl⟩
  · cases e

/-! ### items, slices -/
def rIx_ (ra rb : RE) : RE := fun env m => (ra env m).bind fun x m => (rb env m).bind fun y m => .of (ixM m x y) m
theorem ixAt_eq (n : Nat) (i : Int) : ixAt n i = ixN n i := rfl
theorem at_rep {K : PySem.W.Frag} {Z : Addr → Prop} {ph : List Addr} {H : Hp} {vs : List V} {ds : List D} {i : Int} {d : D} (r : RepVs K Z ph H vs ds) (h : atD ds i = some d) : ∃ v, atI vs i = some v ∧ RepV K Z ph H v d := by
  obtain ⟨j, h1, h2⟩ := Option.bind_eq_some_iff.mp h
  obtain ⟨v, h3, r1⟩ := r.get h2
  refine ⟨v, ?_, r1⟩
  unfold atI
  rw [r.len, ← ixAt_eq, h1]
  exact h3
theorem pe_or {t t' : TE} (h : PE X x t) (h' : PE X x t') : PE X x (fun σ H Q => t σ H Q ∨ t' σ H Q) := ⟨fun pins s σ H Q I w => w.elim (h.run pins s σ H Q I) (h'.run pins s σ H Q I)⟩
/-- one reading for two rules: the things of the first expression tell which -/
theorem n_ix (hu : X.A.units + 64 < cLine) (ha : PE X x (tEv X.K y_ ra)) (hb : PE X y (tEv X.K y_ rb)) (hs : PlainIx y) (hs2 : NoSl y) : PE X (.Subscript x y pos) (tEv X.K y_ (rIx_ ra rb)) := by
  refine ⟨fun pins s σ H Q I ⟨Z, ph, env, m, re, wd, q⟩ => ?_⟩
  by_cases hd : ∃ d m1, ra env m = .ok d m1 ∧ isDic d = true
  · obtain ⟨d, m1, e1, e2⟩ := hd
    refine (pe_dget (by omega) ha hb hs2).run pins s σ H Q I ?_
    unfold rIx_ at q
    rw [e1] at q
    have q : FinG X.K y_ Z ph H σ ((rb env m1).bind fun y m => .of (ixM m d y) m) (fun d _ ph' H' => ∀ u, RepV X.K Z ph' H' u d → Q u H') := q
    refine ⟨Z, ph, env, m, re, wd, ?_⟩
    rw [e1]
    intro ph1 H1 s1 w1 v r1
    refine ev_bind (re.mono s1) w1 (q.after s1) fun d2 m2 ph2 H2 w s2 w2 re2 r2 q => ?_
    obtain ⟨z, hz, qz⟩ := q.pv
    cases d <;> simp only [isDic] at e2 <;> try cases e2
    obtain ⟨o, ho, e⟩ := Option.bind_eq_some_iff.mp hz
    have e : o = some z := e
    subst e
    obtain ⟨a, vvs, k', rfl, e2, e3, g, g1, g2⟩ := dlook_rep w2 (r1.mono s2) r2 ho
    obtain ⟨u, hu, ru⟩ := g1 z rfl
    rw [hu] at g
    exact ⟨a, u, rfl, g, qz.here w2 ru⟩
  · refine (pe_ix ix_seq ha hb hs).run pins s σ H Q I ?_
    have q0 : FinG X.K y_ Z ph H σ ((ra env m).bind fun x m => (rb env m).bind fun y m => .of (ixD m x y) m) (fun d _ ph' H' => ∀ u, RepV X.K Z ph' H' u d → Q u H') := by
      unfold rIx_ at q
      cases e : ra env m with
      | no => rw [e] at q; exact q
      | ex x m => rw [e] at q; exact q
      | ok d m1 =>
        rw [e] at q
        have : ∀ m y, ixM m d y = ixD m d y := fun m y => by
          cases d <;> first | rfl | exact absurd ⟨_, _, e, rfl⟩ hd
        have q : FinG X.K y_ Z ph H σ ((rb env m1).bind fun y m => .of (ixM m d y) m) (fun d _ ph' H' => ∀ u, RepV X.K Z ph' H' u d → Q u H') := q
        simp only [this] at q
        exact q
    refine ev_bind re wd q0 fun d1 m1 ph1 H1 v s1 w1 re1 r1 q => ev_bind re1 w1 q fun d2 m2 ph2 H2 w s2 w2 re2 r2 q => ?_
    obtain ⟨z, h3, qz⟩ := q.pv
    have r1 := r1.mono s2
    unfold ixD at h3
    split at h3
    · rename_i i
      cases r2
      split at h3
      · rename_i xs e
        obtain ⟨a, vs, rfl, h4, r4⟩ := rd_tup r1 e
        obtain ⟨u, h5, r5⟩ := at_rep r4 h3
        exact .inr (.inl ⟨a, vs, i, u, rfl, rfl, h4, h5, qz.here w2 r5⟩)
      · rename_i xs e
        obtain ⟨a, vs, rfl, h4, r4⟩ := rd_lst w2 r1 e
        obtain ⟨u, h5, r5⟩ := at_rep r4 h3
        exact .inl ⟨a, vs, i, u, rfl, rfl, SqL.of h4, h5, qz.here w2 r5⟩
      · rename_i xs e
        obtain ⟨a, vs, rfl, h4, r4⟩ := rd_frz r1 e
        obtain ⟨u, h5, r5⟩ := at_rep r4 h3
        exact .inl ⟨a, vs, i, u, rfl, rfl, h4.sqL, h5, qz.here w2 r5⟩
      · rename_i t e
        split at h3
        · rename_i hl
          obtain ⟨c, h4, h5⟩ := Option.map_eq_some_iff.mp h3
          cases h5
          obtain rfl := rd_str r1 (by assumption)
          exact .inr (.inr ⟨t, i, c, rfl, rfl, by rw [← lim_eq]; exact hl, h4, qz.here w2 (.str _)⟩)
        · cases h3
      · cases h3
    · cases h3
theorem sIx_eq (n d : Nat) (o : Option Int) : sIx n d o = HT.sIx n d o := by cases o <;> rfl
theorem cut_rep {K : PySem.W.Frag} {Z : Addr → Prop} {ph : List Addr} {H : Hp} {vs : List V} {ds : List D} (r : RepVs K Z ph H vs ds) (lo hi : Option Int) : RepVs K Z ph H (cutV vs lo hi) (cutD ds lo hi) := by
  unfold cutV cutD
  rw [r.len, sIx_eq, sIx_eq]
  exact (r.drop _).take _
abbrev RO := Env → M → Rz (Option Int)
def tEvO (K : PySem.W.Frag) (y : Yc) (r : RO) : TO := fun σ H Q => ∃ Z ph env m, RepE K y Z ph H σ env ∧ Wd K Z ph m H ∧ FinG K y Z ph H σ (r env m) fun i _ _ H' => Q i H'
theorem po_imp {e : Option Expr} {t t' : TO} (h : PO X e t) (i : ∀ σ H Q, t' σ H Q → t σ H Q) : PO X e t' := ⟨fun pins s σ H Q I w => h.run pins s σ H Q I (i σ H Q w)⟩
theorem o_none {r : RE} : PO X none (tEvO X.K y_ (partO r true)) := po_imp po_none fun σ H Q ⟨Z, ph, env, m, re, wd, q⟩ => by
  simp only [partO, if_true] at q
  exact q ph H Sx.refl wd
theorem o_some (ha : PE X x (tEv X.K y_ ra)) : PO X (some x) (tEvO X.K y_ (partO ra false)) := po_imp (po_some ha) fun σ H Q ⟨Z, ph, env, m, re, wd, q⟩ => by
  simp only [partO, Bool.false_eq_true, if_false] at q
  refine ev_bind re wd q fun d m1 ph1 H1 v s1 w1 re1 r1 q => ?_
  cases d with
  | int i => cases r1; exact ⟨i, rfl, q ph1 H1 Sx.refl w1⟩
  | _ => exact q.elim
def rSl_ (ra : RE) (rl rh : RO) : RE := fun env m => (ra env m).bind fun x m => (rl env m).bind fun l m => (rh env m).bind fun h m => .of (slD m x l h) m
theorem n_sl {l h : Option Expr} {rl rh : RO} (ha : PE X x (tEv X.K y_ ra)) (hl : PO X l (tEvO X.K y_ rl)) (hh : PO X h (tEvO X.K y_ rh)) : PE X (.Subscript x (.Slice l h none p2) pos) (tEv X.K y_ (rSl_ ra rl rh)) :=
  pe_imp (pe_slice ((sl_tupA.or sl_list).or sl_str) ha hl hh) fun σ H Q ⟨Z, ph, env, m, re, wd, q⟩ => by
    refine ev_bind re wd q fun d m1 ph1 H1 v s1 w1 re1 r1 q => ⟨Z, ph1, env, m1, re1, w1, q.bind fun lo m2 ph2 H2 s2 w2 q => ⟨Z, ph2, env, m2, re1.mono s2, w2, q.bind fun hi m3 ph3 H3 s3 w3 q => ?_⟩⟩
    have r1 := (r1.mono s2).mono s3
    obtain ⟨z, h4, q⟩ := q.pv
    unfold slD at h4
    split at h4
    · rename_i xs he
      cases h4
      obtain ⟨a, vs, rfl, h4, r4⟩ := rd_tup r1 he
      refine .inl (.inl ⟨a, vs, rfl, h4, fun ⟨e1, e2⟩ => ?_, fun _ b hb => q.tup w3 hb (cut_rep r4 _ _)⟩)
      have ec : cutD xs lo hi = xs := by
        unfold cutD
        rw [r4.len, ← sIx_eq] at e1
        rw [r4.len, ← sIx_eq] at e2
        rw [e1, e2, List.drop_zero, Nat.sub_zero, List.take_length]
      rw [ec] at q
      exact q.here w3 (.tup h4 r4)
    · rename_i xs he
      cases h4
      obtain ⟨a, vs, rfl, h4, r4⟩ := rd_lst w3 r1 he
      exact .inl (.inr ⟨a, vs, rfl, SqL.of h4, fun b hb => (q.np w3).upd w3 hb (cut_rep r4 _ _)⟩)
    · rename_i xs he
      cases h4
      obtain ⟨a, vs, rfl, h4, r4⟩ := rd_frz r1 he
      exact .inl (.inr ⟨a, vs, rfl, h4.sqL, fun b hb => (q.np w3).upd w3 hb (cut_rep r4 _ _)⟩)
    · rename_i z he
      split at h4
      · rename_i hz
        cases h4
        obtain rfl := rd_str r1 he
        have ec : cutT z lo hi = cutS z lo hi := by unfold cutT cutS; rw [sIx_eq, sIx_eq]
        rw [ec] at q
        exact .inr ⟨z, rfl, by rw [← lim_eq]; exact hz, q.here w3 (.str _)⟩
      · cases h4
    · cases h4

/-! ### list methods -/
/-- the end of a reading whose memory is changed at a place -/
theorem okp {K : PySem.W.Frag} {Z : Addr → Prop} {ph : List Addr} {H : Hp} {σ : L2.St} {m' : M} {z : D} {Q : VK} {H' : Hp} {v : V} (q : FinG K y_ Z ph H σ (.ok z m') (fun d _ ph' H' => ∀ u, RepV K Z ph' H' u d → Q u H')) (s : Sx ph H ph H') (w : Wd K Z ph m' H') (r : RepV K Z ph H v z) : Q v H' := q ph H' s w v (r.mono s)
def rPop_ (ra : RE) : RE := fun env m => (ra env m).bind fun x m => popM m x
theorem n_pop {o : Expr} (hbase : attributeBase o "pop" X.env (eval o X.env) = eval o X.env) (ha : PE X o (tEv X.K y_ ra)) (hl : (apos.endLine == pos.line) = true) : PE X (.Call (.Attribute o "pop" apos) [] [] pos) (tEv X.K y_ (rPop_ ra)) :=
  pe_imp (pe_bm0 PySem.F.plainAttrs_list PySem.F.slot_list_pop PySem.F.type_list_pop mt_pop ha hbase hl) fun σ H Q ⟨Z, ph, env, m, re, wd, q⟩ => ev_bind re wd q fun d m1 ph1 H1 v s1 w1 re1 r1 q => by
    unfold popM at q
    split at q
    · rename_i l
      cases r1 with
      | @ref a l ha _ =>
        split at q
        · rename_i xs hx
          split at q
          · rename_i y hy
            obtain ⟨vs, h2, r2⟩ := w1.at hx ha
            obtain ⟨u, h3, r3⟩ := r2.get hy
            exact ⟨.inl ⟨rfl, _, SqL.of h2⟩, a, vs, u, rfl, rfl, h2, by rw [r2.len]; exact h3, okp q (Sx.write ha h2) (w1.write ha h2 r2.dropLast) r3⟩
          · exact q.elim
        · exact q.elim
    · exact q.elim
theorem few1 {y : Expr} (hs : starEach [y] X.env = (false, eval y X.env) :: starEach [] X.env) : ((backTo pos (starEach [y] X.env)).all (fun x => !x.1) && (backToKw pos (keywordEach [] X.env)).all (fun x => x.1.isSome)
      && decide (([y]).length + ([] : List Keyword).length + (if ([] : List Keyword).isEmpty then 0 else 1) < 30)) = true := by
  rw [hs]; rfl
theorem first_ref {K : PySem.W.Frag} {Z : Addr → Prop} {ph : List Addr} {H : Hp} {v : V} {l : Nat} (r : RepV K Z ph H v (.ref l)) : ∃ a vs, v = .ref a ∧ ph[l]? = some a ∧ H a = some (.lst vs) := by
  cases r with
  | @ref a l ha k => obtain ⟨vs, e⟩ := k; exact ⟨a, vs, rfl, ha, e⟩
theorem isRef_of {d : D} (h : isRef d = true) : ∃ l, d = .ref l := by
  cases d <;> first | (exact ⟨_, rfl⟩) | (simp [isRef] at h)
theorem FinG.grd {α : Type} {K : PySem.W.Frag} {Z : Addr → Prop} {ph : List Addr} {H : Hp} {σ : L2.St} {b : Bool} {r : Rz α} {P : α → M → List Addr → Hp → Prop} (q : FinG K y_ Z ph H σ (Pv.grd b r) P) : b = true ∧ FinG K y_ Z ph H σ r P := by
  cases b with
  | true => exact ⟨rfl, q⟩
  | false => exact q.elim
def rPopAt_ (ra rb : RE) : RE := fun env m => (ra env m).bind fun x m => grd (isRef x) ((rb env m).bind fun y m => popAtM m x y)
theorem n_popAt {o : Expr} (hbase : attributeBase o "pop" X.env (eval o X.env) = eval o X.env) (ha : PE X o (tEv X.K y_ ra)) (hb : PE X y (tEv X.K y_ rb)) (hl : (apos.endLine == pos.line) = true) (hs : starEach [y] X.env = (false, eval y X.env) :: starEach [] X.env) :
    PE X (.Call (.Attribute o "pop" apos) [y] [] pos) (tEv X.K y_ (rPopAt_ ra rb)) :=
  pe_imp (pe_bm PySem.F.plainAttrs_list PySem.F.slot_list_pop PySem.F.type_list_pop mt_popAt ha (pa_cons hb pa_nil hs) hbase (few1 hs) hl hs rfl) fun σ H Q ⟨Z, ph, env, m, re, wd, q⟩ => ev_bind re wd q fun d m1 ph1 H1 v s1 w1 re1 r1 q => by
    obtain ⟨hr, q⟩ := q.grd
    obtain ⟨l, rfl⟩ := isRef_of hr
    obtain ⟨a, vs0, rfl, ha, hv0⟩ := first_ref r1
    refine ⟨.inl ⟨rfl, _, SqL.of hv0⟩, ev_bind re1 w1 q fun d2 m2 ph2 H2 w s2 w2 re2 r2 q => ?_⟩
    have ha2 := s2.at_ ha
    cases d2 <;> simp only [popAtM] at q <;> (try exact q.elim)
    rename_i i
    cases r2
    split at q
    · rename_i xs hx
      split at q
      · rename_i k hk
        split at q
        · rename_i z hz
          split at q
          · rename_i hb
            simp only [Bool.and_eq_true, decide_eq_true_eq] at hb
            obtain ⟨vs, h3, r3⟩ := w2.at hx ha2
            obtain ⟨u, h4, r4⟩ := r3.get hz
            exact ⟨a, vs, i, k, u, rfl, rfl, h3, hb.1, hb.2, by rw [r3.len]; exact (ixN_seq hk).1, h4, okp q (Sx.write ha2 h3) (w2.write ha2 h3 (r3.erase k)) r4⟩
          · exact q.elim
        · exact q.elim
      · exact q.elim
    · exact q.elim
def rAppend_ (ra rb : RE) : RE := fun env m => (ra env m).bind fun x m => grd (isRef x) ((rb env m).bind fun y m => appendM m y x)
theorem n_append {o : Expr} (hbase : attributeBase o "append" X.env (eval o X.env) = eval o X.env) (ha : PE X o (tEv X.K y_ ra)) (hb : PE X y (tEv X.K y_ rb)) (hl : (apos.endLine == pos.line) = true) (hs : starEach [y] X.env = (false, eval y X.env) :: starEach [] X.env) :
    PE X (.Call (.Attribute o "append" apos) [y] [] pos) (tEv X.K y_ (rAppend_ ra rb)) :=
  pe_imp (pe_bm PySem.F.plainAttrs_list PySem.F.slot_list_append PySem.F.type_list_append mt_append ha (pa_cons hb pa_nil hs) hbase (few1 hs) hl hs rfl) fun σ H Q ⟨Z, ph, env, m, re, wd, q⟩ => ev_bind re wd q fun d m1 ph1 H1 v s1 w1 re1 r1 q => by
    obtain ⟨hr, q⟩ := q.grd
    obtain ⟨l, rfl⟩ := isRef_of hr
    obtain ⟨a, vs0, rfl, ha, hv0⟩ := first_ref r1
    refine ⟨.inl ⟨rfl, _, SqL.of hv0⟩, ev_bind re1 w1 q fun d2 m2 ph2 H2 w s2 w2 re2 r2 q => ?_⟩
    have ha2 := s2.at_ ha
    simp only [appendM] at q
    split at q
    · rename_i xs hx
      split at q
      · rename_i hb
        obtain ⟨vs, h3, r3⟩ := w2.at hx ha2
        exact ⟨a, vs, w, rfl, rfl, h3, by rw [r3.len, ← lim_eq]; exact hb, okp q (Sx.write ha2 h3) (w2.write ha2 h3 (r3.append (.cons r2 .nil))) .non⟩
      · exact q.elim
    · exact q.elim

/-! ### dicts -/
theorem n_dnew : PE X (.Dict [] [] pos) (tEv X.K y_ fun _ m => .ok (.dic m.length) (m ++ [.dct []])) :=
  pe_imp pe_dnewK fun σ H Q ⟨Z, ph, env, m, re, wd, q⟩ p hp => by
    have s : Sx ph H ph (upd H p (.dK [])) := Sx.upd hp
    have w := wd.newZ (o := .dK []) hp
    have np := wd.np hp
    refine q (ph ++ [p]) _ (s.snoc hp) (w.snoc np (fun _ e => by cases e) (fun _ _ e => by cases e) (fun kvs e => ?_)) (.ref p) (.dic ?_ ⟨[], upd_same⟩)
    · cases e; exact ⟨[], upd_same, .nil, .nil⟩
    · rw [← wd.len]; simp
theorem isDic_of {d : D} (h : isDic d = true) : ∃ l, d = .dic l := by
  cases d <;> first | (exact ⟨_, rfl⟩) | (simp [isDic] at h)
theorem first_dic {K : PySem.W.Frag} {Z : Addr → Prop} {ph : List Addr} {H : Hp} {v : V} {l : Nat} (r : RepV K Z ph H v (.dic l)) : ∃ a vs, v = .ref a ∧ ph[l]? = some a ∧ H a = some (.dK vs) := by
  cases r with
  | @dic a l ha k => obtain ⟨vs, e⟩ := k; exact ⟨a, vs, rfl, ha, e⟩
def rDget_ (ra rb : RE) : RE := fun env m => (ra env m).bind fun x m => grd (isDic x) ((rb env m).bind fun y m => .of ((dlook m x y).map fun o => o.getD .non) m)
theorem n_dget {o : Expr} (hu : X.A.units + 64 < cLine) (ha : PE X o (tEv X.K y_ ra)) (hb : PE X y (tEv X.K y_ rb)) (m : M1 X o "get" apos y pos) : PE X (.Call (.Attribute o "get" apos) [y] [] pos) (tEv X.K y_ (rDget_ ra rb)) :=
  pe_imp (pe_dget1 (by omega) ha hb m) fun σ H Q ⟨Z, ph, env, m, re, wd, q⟩ => ev_bind re wd q fun d m1 ph1 H1 v s1 w1 re1 r1 q => by
    obtain ⟨hr, q⟩ := q.grd
    obtain ⟨l, rfl⟩ := isDic_of hr
    obtain ⟨a, vs0, rfl, ha, hv0⟩ := first_dic r1
    refine ⟨a, rfl, .inl ⟨_, .inl hv0⟩, ev_bind re1 w1 q fun d2 m2 ph2 H2 w s2 w2 re2 r2 q => ?_⟩
    obtain ⟨z, hz, qz⟩ := q.pv
    obtain ⟨o, ho, rfl⟩ := Option.map_eq_some_iff.mp hz
    obtain ⟨a', vvs, k', e1, e2, e3, g, g1, g2⟩ := dlook_rep w2 (r1.mono s2) r2 ho
    cases e1
    refine ⟨_, g, ?_⟩
    cases o with
    | none => rw [g2 rfl]; exact qz.here w2 .non
    | some d => obtain ⟨u, hu, ru⟩ := g1 d rfl; rw [hu]; exact qz.here w2 ru
def rDgetD_ (ra rb rc : RE) : RE := fun env m => (ra env m).bind fun x m => grd (isDic x) ((rb env m).bind fun y m => (rc env m).bind fun z m => .of ((dlook m x y).map fun o => o.getD z) m)
theorem n_dgetD {o : Expr} (hu : X.A.units + 64 < cLine) (ha : PE X o (tEv X.K y_ ra)) (hb : PE X y (tEv X.K y_ rb)) (hc : PE X w (tEv X.K y_ rc)) (m : M2 X o "get" apos y w pos) : PE X (.Call (.Attribute o "get" apos) [y, w] [] pos) (tEv X.K y_ (rDgetD_ ra rb rc)) :=
  pe_imp (pe_dget2 (by omega) ha hb hc m) fun σ H Q ⟨Z, ph, env, m, re, wd, q⟩ => ev_bind re wd q fun d m1 ph1 H1 v s1 w1 re1 r1 q => by
    obtain ⟨hr, q⟩ := q.grd
    obtain ⟨l, rfl⟩ := isDic_of hr
    obtain ⟨a, vs0, rfl, ha, hv0⟩ := first_dic r1
    refine ⟨a, rfl, .inl ⟨_, .inl hv0⟩, ev_bind re1 w1 q fun d2 m2 ph2 H2 w s2 w2 re2 r2 q => ev_bind re2 w2 q fun d3 m3 ph3 H3 w' s3 w3 re3 r3 q => ?_⟩
    obtain ⟨z, hz, qz⟩ := q.pv
    obtain ⟨o, ho, rfl⟩ := Option.map_eq_some_iff.mp hz
    obtain ⟨a', vvs, k', e1, e2, e3, g, g1, g2⟩ := dlook_rep w3 ((r1.mono s2).mono s3) (r2.mono s3) ho
    cases e1
    refine ⟨_, g, ?_⟩
    cases o with
    | none => rw [g2 rfl]; exact qz.here w3 r3
    | some d => obtain ⟨u, hu, ru⟩ := g1 d rfl; rw [hu]; exact qz.here w3 ru
end
end Pv

namespace Pv
open PySem PySem.Spec PyProof.Rows L2
variable [TabT]

/-! ## instances -/
theorem meth_form {env : PySem.Env} {o : Expr} {nm : Str} {apos pos : Pos} {args : List Expr} (hbase : attributeBase o nm env (eval o env) = eval o env) (hf : methodCallForm (args.length + ([] : List Keyword).length) (backTo pos (starEach args env)) (backToKw pos (keywordEach [] env)) = true) (hl : (apos.endLine == pos.line) = true) :
    eval (.Call (.Attribute o nm apos) args [] pos) env = (do
      let ov ← eval o env
      standAt apos.atName
      let (f, first) ← holding [ov] (getMethod ov nm (do return (← importBound o env).getD true))
      callWith pos f first (backTo pos (starEach args env)) (backToKw pos (keywordEach [] env))) := by
  have hp : ∀ few, methodCallPos few o env apos pos = pure pos := fun few => by unfold methodCallPos; simp [hl]
  rw [arm_eval_Call, hbase]
  unfold methodCall
  rw [hf, hp]
  simp only [calleeOf, if_true, pure_bind]
theorem form_ok : ∀ (args : List Expr) (env : PySem.Env) (pos : Pos), args.length < 29 → (∀ x ∈ args, starEach [x] env = [(false, eval x env)]) → (backTo pos (starEach args env)).all (fun x => !x.1) = true → methodCallForm (args.length + ([] : List Keyword).length) (backTo pos (starEach args env)) (backToKw pos (keywordEach [] env)) = true := fun args env pos hl _ h => by
  unfold methodCallForm
  rw [h]
  show (true && true && decide (args.length + 0 + 0 < 30)) = true
  simp
  omega
section
variable {K : PySem.W.Frag} {Z : Addr → Prop} {ph : List Addr} {H : Hp} {m : M}
theorem fget_rep {f : Str} : ∀ {fs : List (Str × D)} {fvs : List (Str × V)}, RepFs K Z ph H fvs fs → (∀ d, fget f fs = some d → ∃ v, fvs.lookup f = some v ∧ RepV K Z ph H v d) ∧ (fget f fs = none → fvs.lookup f = none)
  | [], fvs, r => by
    obtain ⟨nm, vs⟩ := r
    cases fvs with
    | nil => exact ⟨fun d h => (by simp [fget] at h), fun _ => rfl⟩
    | cons p q => cases vs
  | (g, e) :: fs, fvs, r => by
    obtain ⟨nm, vs⟩ := r
    cases fvs with
    | nil => cases vs
    | cons p q =>
      obtain ⟨k, v⟩ := p
      simp only [List.map_cons, List.cons.injEq] at nm
      cases vs with
      | cons v1 vs =>
        obtain ⟨i1, i2⟩ := fget_rep (fs := fs) (fvs := q) ⟨nm.2, vs⟩
        have ek : k = g := nm.1
        subst ek
        by_cases hf : f = k
        · have hb : (f == k) = true := beq_iff_eq.mpr hf
          refine ⟨fun d h => ?_, fun h => ?_⟩
          · simp only [fget, if_pos hf] at h
            cases h
            exact ⟨v, by simp only [List.lookup, hb], v1⟩
          · simp only [fget, if_pos hf] at h
            cases h
        · have hb : (f == k) = false := beq_eq_false_iff_ne.mpr hf
          simp only [fget, if_neg hf, List.lookup, hb]
          exact ⟨i1, i2⟩
theorem fput_rep {f : Str} {v : V} {d : D} (rv : RepV K Z ph H v d) : ∀ {fs : List (Str × D)} {fvs : List (Str × V)}, RepFs K Z ph H fvs fs → RepFs K Z ph H (putF f v fvs) (fput f d fs)
  | [], fvs, r => by
    obtain ⟨nm, vs⟩ := r
    cases fvs with
    | nil => exact ⟨rfl, .cons rv .nil⟩
    | cons p q => cases vs
  | (g, e) :: fs, fvs, r => by
    obtain ⟨nm, vs⟩ := r
    cases fvs with
    | nil => cases vs
    | cons p q =>
      obtain ⟨k, w⟩ := p
      simp only [List.map_cons, List.cons.injEq] at nm
      cases vs with
      | cons v1 vs =>
        obtain ⟨i1, i2⟩ := fput_rep rv (fs := fs) (fvs := q) ⟨nm.2, vs⟩
        have ek : k = g := nm.1
        subst ek
        by_cases hf : k = f
        · simp only [putF, fput, if_pos hf]
          exact ⟨by simp only [List.map_cons, nm.2], .cons rv vs⟩
        · simp only [putF, fput, if_neg hf]
          exact ⟨by simp only [List.map_cons, i1], .cons v1 i2⟩
theorem RepFs.len {fs : List (Str × D)} {fvs : List (Str × V)} (r : RepFs K Z ph H fvs fs) : fvs.length = fs.length := by
  have := r.vs.len
  simpa using this
/-- what is read at an instance of the class at C -/
theorem obj_at {v : V} {l : Nat} {nm : Str} {fs : List (Str × D)} (w : Wd K Z ph m H) (r : RepV K Z ph H v (.obj l)) (h : m[l]? = some (.ins nm fs)) : ∃ a C dx fvs, v = .ref a ∧ ph[l]? = some a ∧ PySem.W.nsIn K mainGlobals nm = some (some (.ref C)) ∧ H a = some (.ins C dx fvs) ∧ RepFs K Z ph H fvs fs := by
  cases r with
  | @obj a l ha k =>
    obtain ⟨C, dx, fvs, e0, e2, r⟩ := w.iat h ha
    exact ⟨a, C, dx, fvs, rfl, ha, e0, e2, r⟩
end
/-- what is known of a class -/
structure ClK (K : PySem.W.Frag) (c : Str) (C : Addr) : Prop where
  at_ : PySem.W.nsIn K mainGlobals c = some (some (.ref C))
  cls : Cls K C
section
variable {X : Cx} {y_ : Yc} {x y w : Expr} {pos p p2 apos : Pos} {ra rb rc : RE}
theorem ns_one {K : PySem.W.Frag} {c : Str} {C C' : Addr} (h : PySem.W.nsIn K mainGlobals c = some (some (.ref C))) (h' : PySem.W.nsIn K mainGlobals c = some (some (.ref C'))) : C = C' := by
  rw [h] at h'; cases h'; rfl
def rAttr_ (ra : RE) (c f : Str) : RE := fun env m => (ra env m).bind fun o m => .of (attrM m c f o) m
theorem n_attr {c f : Str} {C : Addr} (k : ClK X.K c C) (na : NoAttr X.K C f) (ha : PE X x (tEv X.K y_ ra)) (hb : attributeBase x f X.env (eval x X.env) = eval x X.env) : PE X (.Attribute x f pos) (tEv X.K y_ (rAttr_ ra c f)) :=
  pe_imp (pe_fld ha hb) fun σ H Q ⟨Z, ph, env, m, re, wd, q⟩ => ev_bind re wd q fun d m1 ph1 H1 v s1 w1 re1 r1 q => by
    obtain ⟨z, hz, qz⟩ := q.pv
    cases d <;> simp only [attrM] at hz <;> try cases hz
    rename_i l
    split at hz
    · rename_i nm fs hm
      split at hz
      · rename_i en
        subst en
        obtain ⟨a, C', dx, fvs, rfl, h1, h2, h3, r⟩ := obj_at w1 r1 hm
        have := ns_one k.at_ h2
        subst this
        obtain ⟨u, h4, r4⟩ := (fget_rep r).1 z hz
        exact ⟨a, C, dx, fvs, u, rfl, h3, k.cls, na, h4, qz.here w1 r4⟩
      · cases hz
    · cases hz

/-! ### methods -/
variable {n k : Nat} {f : Addr} {fd : FuncData} {ps : List Str} {nm c : Str} {g : List D → M → O1} {xs : List Expr} {rs : RA} {C : Addr}
def rMeth_ (h : M → O1 → O1) (g : List D → M → O1) (c nm : Str) (ra : RE) (rs : RA) : RE := fun env m => (ra env m).bind fun o m => grd (methM m c nm o) ((rs env m).bind fun ds m => h m (g (o :: ds) m))
theorem methM_of {m : M} {c nm : Str} {o : D} (h : methM m c nm o = true) : ∃ l fs, o = .obj l ∧ m[l]? = some (.ins c fs) ∧ fget nm fs = none := by
  cases o <;> simp only [methM] at h <;> try cases h
  split at h
  · rename_i k fs hm
    simp only [Bool.and_eq_true, decide_eq_true_eq] at h
    obtain ⟨rfl, h⟩ := h
    exact ⟨_, fs, rfl, hm, h⟩
  · cases h
theorem n_meth {h : M → O1 → O1} (he : EndR h) (hn : EndN h) (tk : Takes X y_.W) (K1 : ClK X.K c C) (hm : Meth X.K C nm f) (F : FnK X.prog X.w X.K X.mg X.base n f fd ps (spF X.K k g)) (hk : ∀ ds m, g ds m ≠ .no → ds.length = k) (hr : RmB n X.A) (hb : Binds X.K fd ps [])
    (ho : PE X x (tEv X.K y_ ra)) (ha : PA X xs (tEvA X.K y_ rs)) (hst : ∀ z zs, xs = z :: zs → starEach (z :: zs) X.env = (false, eval z X.env) :: starEach zs X.env) (hpl : ∀ z zs, xs = z :: zs → (backTo pos (starEach zs X.env)).any (·.1) = false) (hnil : xs = [] → rs = fun _ m => .ok [] m)
    (hbase : attributeBase x nm X.env (eval x X.env) = eval x X.env) (hfm : methodCallForm (xs.length + ([] : List Keyword).length) (backTo pos (starEach xs X.env)) (backToKw pos (keywordEach [] X.env)) = true) (hln : (apos.endLine == pos.line) = true) :
    PE X (.Call (.Attribute x nm apos) xs [] pos) (tEv X.K y_ (rMeth_ h g c nm ra rs)) := by
  have ht := meth_form (args := xs) hbase hfm hln
  refine ⟨fun pins s σ H Q I ⟨Z, ph, env, m, re, wd, q⟩ => ?_⟩
  refine PySem.W.methodCall_KW (thn (ho.run pins s σ H (fun v H1 => ∃ (d : D) (m1 : M) (ph1 : List Addr) (a : Addr) (dx : Addr) (fvs : List (Str × V)), v = .ref a ∧ Wd X.K Z ph1 m1 H1 ∧ RepE X.K y_ Z ph1 H1 σ env ∧ RepV X.K Z ph1 H1 v d ∧ H1 a = some (.ins C dx fvs) ∧ fvs.lookup nm = none ∧
    FinG X.K y_ Z ph1 H1 σ ((rs env m1).bind fun ds m => h m (g (d :: ds) m)) (fun d _ ph' H' => ∀ u, RepV X.K Z ph' H' u d → Q u H')) I (ev_bind re wd q fun d m1 ph1 H1 v s1 w1 re1 r1 q => ?_)) fun u s1 ⟨v, H1, I1, rv, d, m1, ph1, a, dx, fvs, ev, w1, re1, r1, h3, h4, q⟩ => ?_) ht
  · obtain ⟨hg, q⟩ := q.grd
    obtain ⟨l, fs, rfl, hm', hno⟩ := methM_of hg
    obtain ⟨a, C', dx, fvs, rfl, h1, h2, h3, r⟩ := obj_at w1 r1 hm'
    have := ns_one K1.at_ h2
    subst this
    exact ⟨_, m1, ph1, a, dx, fvs, rfl, w1, re1, r1, h3, (fget_rep r).2 hno, q⟩
  subst ev
  obtain rfl : u = Value.ref a := rv
  refine getmeth_ok I1 h3 K1.cls hm h4 ?_
  have key : ∀ {H2 : Hp} {ph2 m2} {ds : List D} {vs : List V}, Sx ph1 H1 ph2 H2 → Wd X.K Z ph2 m2 H2 → RepVs X.K Z ph2 H2 vs ds → FinG X.K y_ Z ph2 H2 σ (h m2 (g (d :: ds) m2)) (fun d _ ph' H' => ∀ u, RepV X.K Z ph' H' u d → Q u H') → spF X.K k g (.ref a :: vs) H2 Q (y_.at σ) := fun {H2 ph2 m2 ds vs} s2 w2 r2 q2 =>
    ⟨by rw [List.length_cons, r2.len]; exact hk (d :: ds) m2 (fun e => by rw [e, hn] at q2; exact q2.elim), Z, ph2, m2, d :: ds, .cons (r1.mono s2) r2, w2, he _ _ _ _ _ _ _ _ _ w2 q2⟩
  cases xs with
  | nil =>
    rw [hnil rfl] at q
    exact PySem.W.callWith_K0 (first := [.ref a]) I1.kIn hm.kp (k_run (us := [.ref a]) (vs := [.ref a]) tk F hr.rm hb I1 (.cons rfl .nil) (key Sx.refl w1 .nil q))
  | cons z zs =>
    refine PySem.W.callWith_K (first := [.ref a]) (h₀ := X.base) I.ok.mod.kin hm.kp (thn (ha.run pos pins s1 σ H1 (fun vs H2 => spF X.K k g (.ref a :: vs) H2 Q (y_.at σ)) I1 (eva_bind re1 w1 q fun ds m2 ph2 H2 vs s2 w2 re2 r2 q2 => key s2 w2 r2 q2)) fun us s2 ⟨vs, H2, I2, r2, q2⟩ => ⟨I2.kIn, ?_⟩) (hst z zs rfl) (hpl z zs rfl)
    exact k_run (us := .ref a :: us) (vs := .ref a :: vs) tk F hr.rm hb I2 (.cons rfl r2) q2

/-! ### a class called -/
theorem k_make {pins : List (Addr × Obj)} {σ : L2.St} {H : Hp} {s : Shared} {Q : VK} {us : List Value} {vs : List V} {W : WX} {sp : Sp} (tk : Takes X W) (M : Mk X.K C f) (F : FnK X.prog X.w X.K X.mg X.base n f fd ps sp) (hr : RmB n X.A) (hb : Binds X.K fd ps []) (I : Inv X pins σ H s) (r : Vals vs us)
    (h : ∀ x dx, H x = none → H dx = none → dx ≠ x → sp (.ref x :: vs) (upd (upd H dx (.own x)) x (.ins C dx [])) (fun v H2 => v = .non ∧ Q (.ref x) H2) fun cls d H' => W cls d σ H') :
    wpAny (model X.prog X.w) X.A (call (.ref C) us) (EP X pins σ Q) X.xe s := by
  have hq := h (s.heap.objs.size + 1) s.heap.objs.size (I.hok.fresh (Nat.le_succ _)) (I.hok.fresh (Nat.le_refl _)) (Nat.ne_of_lt (Nat.lt_succ_self _))
  have I2 := Inv.made (C := C) I
  have r2 : Vals (V.ref (s.heap.objs.size + 1) :: vs) (Value.ref (s.heap.objs.size + 1) :: us) := .cons rfl r
  have hl : (Value.ref (s.heap.objs.size + 1) :: us).length = ps.length := by rw [← F.len _ _ _ _ hq]; exact r2.length.symm
  have b := hb _ (Value.ref (s.heap.objs.size + 1) :: us) I2.kIn (by rw [List.append_nil]; exact hl)
  rw [List.append_nil] at b
  refine wpAny_call (make_map (f := f) I.kIn M.makes M.init (beq_iff_eq.mp M.fn) (codeAny_mono (F.run _ X.stack _ _ ⟨Value.ref (s.heap.objs.size + 1) :: us, []⟩ (Value.ref (s.heap.objs.size + 1) :: us) _ _ _ (hr.make C us []) (I2.env0.make C us []) b r2 hq) fun r s' hq' => ?_))
  cases r with
  | error e => exact xe_of tk I2 hq'
  | ok fl =>
    cases fl with
    | ret u =>
      obtain ⟨v, H', I3, rv, ev, q3⟩ := I2.after hq'
      subst ev
      exact ⟨rv, ⟨V.ref (s.heap.objs.size + 1), H', I3, rfl, q3⟩⟩
    | next => exact False.elim hq'
    | brk => exact False.elim hq'
    | cont => exact False.elim hq'
def rMk_ (g : List D → M → O1) (c : Str) (rs : RA) : RE := fun env m => (rs env m).bind fun ds m => (g (.obj m.length :: ds) (m ++ [.ins c []])).bind fun d m' => grd (decide (d = .non)) (.ok (.obj m.length) m')
theorem n_mk (tk : Takes X y_.W) (K1 : ClK X.K c C) (M : Mk X.K C f) (F : FnK X.prog X.w X.K X.mg X.base n f fd ps (spF X.K k g)) (hk : ∀ ds m, g ds m ≠ .no → ds.length = k) (hr : RmB n X.A) (hb : Binds X.K fd ps []) (hg : Gl X c) (hmg : X.mg c = some (.ref C))
    (ha : PA X xs (tEvA X.K y_ rs)) (hst : ∀ z zs, xs = z :: zs → starEach (z :: zs) X.env = (false, eval z X.env) :: starEach zs X.env) (hpl : ∀ z zs, xs = z :: zs → (backTo pos (starEach zs X.env)).any (·.1) = false) (hnil : xs = [] → rs = fun _ m => .ok [] m) (hdb : (c == ("__debug__" : Str)) = false) :
    PE X (.Call (.Name c p) xs [] pos) (tEv X.K y_ (rMk_ g c rs)) := by
  have key : ∀ {σ : L2.St} {H : Hp} {Q : VK} {Z ph m} {ds : List D} {vs : List V}, Wd X.K Z ph m H → RepVs X.K Z ph H vs ds → FinG X.K y_ Z ph H σ ((g (.obj m.length :: ds) (m ++ [.ins c []])).bind fun d m' => grd (decide (d = .non)) (.ok (.obj m.length) m')) (fun d _ ph' H' => ∀ u, RepV X.K Z ph' H' u d → Q u H') →
      ∀ x dx, H x = none → H dx = none → dx ≠ x → spF X.K k g (.ref x :: vs) (upd (upd H dx (.own x)) x (.ins C dx [])) (fun v H2 => v = .non ∧ Q (.ref x) H2) (y_.at σ) := fun {σ H Q Z ph m ds vs} wd r q x dx hx hdx hne => by
    have s1 : Sx ph H ph (upd H dx (.own x)) := Sx.upd hdx
    have w1 : Wd X.K Z ph m (upd H dx (.own x)) := wd.new hdx
    have hx1 : upd H dx (.own x) x = none := by rw [upd_ne (Ne.symm hne)]; exact hx
    have s2 : Sx ph (upd H dx (.own x)) ph (upd (upd H dx (.own x)) x (.ins C dx [])) := Sx.upd hx1
    have w2 := w1.newZ (o := .ins C dx []) hx1
    have np : x ∉ ph := wd.np hx
    have w3 : Wd X.K Z (ph ++ [x]) (m ++ [.ins c []]) (upd (upd H dx (.own x)) x (.ins C dx [])) := w2.snoc np (fun _ e => by cases e) (fun nm fs e => by cases e; exact ⟨C, dx, [], K1.at_, upd_same, rfl, .nil⟩) (fun _ e => by cases e)
    have s3 : Sx ph H (ph ++ [x]) (upd (upd H dx (.own x)) x (.ins C dx [])) := (s1.trans s2).snoc hx
    have ro : RepV X.K Z (ph ++ [x]) (upd (upd H dx (.own x)) x (.ins C dx [])) (.ref x) (.obj m.length) := .obj (by rw [← wd.len]; simp) ⟨C, dx, [], upd_same⟩
    have rr : RepVs X.K Z (ph ++ [x]) (upd (upd H dx (.own x)) x (.ins C dx [])) (.ref x :: vs) (.obj m.length :: ds) := .cons ro (r.mono s3)
    refine ⟨by rw [rr.len]; exact hk _ (m ++ [.ins c []]) (fun e => by rw [e] at q; exact q.elim), Z, ph ++ [x], m ++ [.ins c []], _, rr, w3, ?_⟩
    generalize g (.obj m.length :: ds) (m ++ [.ins c []]) = gr at q
    cases gr with
    | no => exact q
    | ex e m' => exact fun ph' H' cls dd s w r => q ph' H' cls dd (s3.trans s) w r
    | ok d m' =>
      intro ph' H' u s w r
      have q : FinG X.K y_ Z ph H σ (grd (decide (d = .non)) (.ok (.obj m.length) m')) (fun d _ ph' H' => ∀ u, RepV X.K Z ph' H' u d → Q u H') := q
      obtain ⟨hd, q⟩ := q.grd
      have hd : d = .non := of_decide_eq_true hd
      subst hd
      cases r
      exact ⟨rfl, q ph' H' (s3.trans s) w (.ref x) (ro.mono s)⟩
  cases xs with
  | nil =>
    refine ⟨fun pins s σ H Q I ⟨Z, ph, env, m, re, wd, q⟩ => ?_⟩
    refine wpAny_Call_Name_kw (ld_glob I hg hmg ?_ hdb)
    rw [hnil rfl] at q
    exact PySem.W.callWith_K0 I.kIn M.kp (k_make (us := []) tk M F hr hb I .nil (key wd .nil q))
  | cons z zs =>
    refine ⟨fun pins s σ H Q I ⟨Z, ph, env, m, re, wd, q⟩ => ?_⟩
    refine wpAny_Call_Name_kw (ld_glob I hg hmg ?_ hdb)
    refine PySem.W.callWith_K (h₀ := X.base) I.ok.mod.kin M.kp (thn (ha.run pos pins s σ H (fun vs H1 => ∀ x dx, H1 x = none → H1 dx = none → dx ≠ x → spF X.K k g (.ref x :: vs) (upd (upd H1 dx (.own x)) x (.ins C dx [])) (fun v H2 => v = .non ∧ Q (.ref x) H2) (y_.at σ)) I (eva_bind re wd q fun ds m1 ph1 H1 vs s1 w1 re1 r1 q => key w1 r1 q)) fun us s1 ⟨vs, H1, I1, r, q⟩ => ⟨I1.kIn, ?_⟩) (hst z zs rfl) (hpl z zs rfl)
    exact k_make tk M F hr hb I1 r q
end
end Pv

namespace Pv
open PySem PySem.Spec PyProof.Rows L2
variable [TabT]

/-! ## own exceptions over Exception; over ValueError the kit has them -/
structure OexE (K : PySem.W.Frag) (C : Addr) : Prop where
  cls : ∃ nm q N bs sn sub ab col dd k0 k1 k2 k3 k5, K.lookup C = some (excClassObj nm q C N bs PySem.ESX.exTail true sn sub ab col dd k0 k1 k2 k3 k5 "Exception.__new__")
  sa : PySem.W.findIn K (.ref C) "__setattr__" = some (some (.builtin "object.__setattr__"))
  exC : PySem.W.subIn K (.ref C) (.type "BaseException") = some true
  tyC : PySem.W.typeIn K (.ref C) = some (.type "type")
  kC : PySem.W.keepIn K (.ref C) = true
def OexK (K : PySem.W.Frag) (C : Addr) : Prop := OexC K C ∨ OexE K C
theorem OexK.exC {K : PySem.W.Frag} {C : Addr} (T : OexK K C) : PySem.W.subIn K (.ref C) (.type "BaseException") = some true := T.elim (·.exC) (·.exC)
theorem OexK.tyC {K : PySem.W.Frag} {C : Addr} (T : OexK K C) : PySem.W.typeIn K (.ref C) = some (.type "type") := T.elim (·.tyC) (·.tyC)
theorem OexK.kC {K : PySem.W.Frag} {C : Addr} (T : OexK K C) : PySem.W.keepIn K (.ref C) = true := T.elim (·.kC) (·.kC)
section
variable {X : Cx} {pins : List (Addr × Obj)} {σ : L2.St} {H : Hp} {s : Shared} {a C dx : Addr} {f : Str} {y : V} {u : Value} {fs : List (Str × V)} {Q : Unit → Shared → Prop} {E : Value → Shared → Prop} {A : Around}
theorem OexE.cl {K : PySem.W.Frag} (T : OexE K C) : ∃ cd, PySem.W.clsIn K C = some cd ∧ cd.mro = .ref C :: PySem.ESX.exTail ∧ cd.hasDict = true := by
  obtain ⟨nm, q, N, bs, sn, sub, ab, col, dd, k0, k1, k2, k3, k5, hC⟩ := T.cls
  exact ⟨_, by unfold PySem.W.clsIn; rw [hC] <;> rfl, rfl, rfl⟩
theorem est_new (T : OexE X.K C) (I : Inv X pins σ H s) (e : H a = some (exo a C none)) (hno : PySem.W.findIn X.K (.ref C) f = some none) (ry : RelV y u)
    (hh : ∀ dx s', H dx = none → dx ≠ a → Inv X pins σ (upd (upd H dx (exd dx [(f, y)])) a (exo a C (some dx))) s' → Q () s') : wpAny (model X.prog X.w) A (setAttr (.ref a) f u) Q E s := by
  obtain ⟨cd, hcl, hmro, hhd⟩ := T.cl
  obtain ⟨tx, hox⟩ := exo_at I.hok e
  obtain ⟨hp, g, d, t, os⟩ := s
  refine PySem.W.set_plain I.kIn (od := none) (ox := { cls := .ref C, dict := none, data := .fields #[.ref tx, .none, .none, .none, .bool false, .none] }) ⟨hox, rfl, rfl, trivial⟩ T.sa ?_
  refine PySem.ESX.osa_new I.kIn hox hcl hmro hhd hno (fun h2 tk2 dx kp dnew dxa hxa hns => ?_)
  have hfr : H dx = none := I.hok.fresh dnew
  have old : ∀ {b : Addr} {ob : Obj}, hp.get? b = some ob → b ≠ dx := fun {b ob} q => Nat.ne_of_lt (Nat.lt_of_lt_of_le (Heap.lt_size q) dnew)
  have far : ∀ {b : Addr}, H b = none → b ≠ a := fun {b} n z => by
    subst z
    rw [e] at n
    cases n
  have UU : Un X.fs [] H (upd (upd H dx (exd dx [(f, y)])) a (exo a C (some dx))) hp h2 :=
    ⟨fun b ob q n _ _ => kp b ob (far n) q, fun b ob q n _ _ => ⟨ob.slots, kp b ob (far n) q⟩, fun b ob q n _ => by rw [upd_ne (far n), upd_ne (old q)]; exact n,
      fun b ob q _ => by
        by_cases hb : b = a
        · exact ⟨_, by rw [hb]; exact hxa⟩
        · exact ⟨ob, kp b ob hb q⟩,
      fun b xs q => by rw [upd_ne (at_ne e q exo_tup), upd_ne (ne_of_none q hfr)]; exact q, fun b ob v q => by rw [upd_ne (at_ne e q exo_frz), upd_ne (ne_of_none q hfr)]; exact q,
      fun b ps q => ⟨#[], by rw [upd_ne (at_ne e q exo_tbl), upd_ne (ne_of_none q hfr), q]; simp⟩⟩
  refine hh dx _ hfr dxa (I.un (t' := tk2) UU fun b ob q => ?_)
  by_cases hb : b = a
  · subst hb
    rw [upd_same] at q
    cases q
    exact exo_ok hxa
  rw [upd_ne hb] at q
  by_cases hd : b = dx
  · subst hd
    rw [upd_same] at q
    cases q
    exact exd_ok hns (relO_put (fs := []) ry fun g => True.intro)
  rw [upd_ne hd] at q
  refine (I.hok b ob q).stay (fun c v hc z => kp c v ?_ z) (fun c hc => ?_) fun c xs hc => ?_
  · rcases hc with hc | hc
    · exact hc ▸ hb
    · exact at_ne e hc exo_own
  · rw [upd_ne (at_ne e hc exo_own), upd_ne (ne_of_none hc hfr)]; exact hc
  · rw [upd_ne (at_ne e hc exo_tup), upd_ne (ne_of_none hc hfr)]; exact hc
theorem est_old (T : OexE X.K C) (I : Inv X pins σ H s) (e : H a = some (exo a C (some dx))) (ed : H dx = some (exd dx fs)) (hl : fs.length ≤ 900) (hno : PySem.W.findIn X.K (.ref C) f = some none) (ry : RelV y u)
    (hh : ∀ s', Inv X pins σ (upd H dx (exd dx ((f, y) :: fs))) s' → Q () s') : wpAny (model X.prog X.w) A (setAttr (.ref a) f u) Q E s := by
  obtain ⟨cd, hcl, hmro, hhd⟩ := T.cl
  obtain ⟨tx, hox⟩ := exo_at I.hok e
  obtain ⟨mA, hns, rel⟩ := exd_at I.hok ed
  have hwi := within_of rel
  obtain ⟨hp, g, d, t, os⟩ := s
  obtain ⟨oD, _, _, hoD, _, _⟩ := hns.count hwi
  refine PySem.W.set_plain I.kIn (od := some oD) (ox := { cls := .ref C, dict := some dx, data := .fields #[.ref tx, .none, .none, .none, .bool false, .none] }) ⟨hox, rfl, rfl, hoD⟩ T.sa ?_
  refine PySem.ESX.osa_old I.kIn hox hns hwi (by rw [List.length_map]; omega) hcl hmro hhd hno (fun h2 tk2 kp hn2 => ?_)
  have hd : ∃ o, h2.get? dx = some o := by
    obtain ⟨o, _, _, q, _⟩ := hn2
    exact ⟨o, q⟩
  exact hh _ (I.write (t' := tk2) (x := dx) (e := dx) (o := exd dx ((f, y) :: fs)) (by rw [ed]; exact True.intro) (.inl rfl) kp hd (exd_ok hn2 (relO_put ry rel)))
theorem einit_ok {us : List Value} {Q : Value → Shared → Prop} (T : OexE X.K C) (I : Inv X pins σ H s) (e : H a = some (exo a C none)) (hl : us.length ≤ sizeLine) (hh : ∀ s', Inv X pins σ H s' → Q .none s') :
    wpAny (model X.prog X.w) A (call (.builtin "Exception.__init__") (.ref a :: us)) Q E s := by
  obtain ⟨nm, q, N, bs, sn, sub, ab, col, dd, k0, k1, k2, k3, k5, hC⟩ := T.cls
  obtain ⟨tx, hox⟩ := exo_at I.hok e
  obtain ⟨hp, g, d, t, os⟩ := s
  refine wpAny_call (PySem.HandSPX.init_base F.excBase_Exception (fun Y => rfl) (I.kIn _ _ hC) hox hl fun h2 t2 kp hx => ?_)
  have J := I.write (t' := t) (x := a) (e := a) (o := exo a C none) (by rw [e]; exact True.intro) (.inl rfl) kp ⟨_, hx⟩ (exo_ok hx)
  have eu : upd H a (exo a C none) = H := by
    funext b
    by_cases hb : b = a
    · rw [hb, upd_same, e]
    · rw [upd_ne hb]
  rw [eu] at J
  exact hh _ J
end

/-! ### an exception's __init__, walked by its form -/
/-- Base.__init__(self, ..): nothing is told of it -/
def tBI (C : Addr) (ta : TA) : TE := fun σ H Q => ta σ H fun vs H1 => ∃ (a : Addr) (ws : List V), vs = .ref a :: ws ∧ ws.length ≤ 1000 ∧ H1 a = some (exo a C none) ∧ Q .non H1
/-- the __init__ of a base: of a class of the text over ValueError, of Exception itself -/
inductive BaseI (X : Cx) (C : Addr) : Str → Prop where
  | own {b : Str} {C0 : Addr} (T : OexC X.K C) (hg : Gl X b) (hm : X.mg b = some (.ref C0)) (hd : (b == ("__debug__" : Str)) = false) (rd : PySem.W.readsIn X.K C0 (.type "type") = true) (ga : PySem.W.specialIn X.K (.ref C0) "__getattribute__" = some (some (.builtin "type.__getattribute__")))
      (at_ : PySem.W.findCls X.K (.ref C0) (.type "type") "__init__" = some (.val (.builtin "ValueError.__init__"))) : BaseI X C b
  | exc (T : OexE X.K C) (hg : Gl X "Exception") (hm : X.mg "Exception" = none) (at_ : PySem.W.findCls X.K (.type "Exception") (.type "type") "__init__" = some (.val (.builtin "Exception.__init__"))) : BaseI X C "Exception"
theorem BaseI.k {X : Cx} {C : Addr} {b : Str} (h : BaseI X C b) : OexK X.K C := by
  cases h with
  | own T _ _ _ _ _ _ => exact .inl T
  | exc T _ _ _ => exact .inr T
theorem typ_EX : typeOf (.type "Exception") = pure (.type "type") := by kernel_rfl
section
variable {X : Cx} {o e : Expr} {es : List Expr} {to te : TE} {ta : TA} {f b : Str} {p p' p1 p2 pos : Pos} {C : Addr}
theorem pe_binit (hB : BaseI X C b) (ha : PA X (e :: es) ta)
    (hfm : methodCallForm ((e :: es).length + ([] : List Keyword).length) (backTo pos (starEach (e :: es) X.env)) (backToKw pos (keywordEach [] X.env)) = true) (hln : (p2.endLine == pos.line) = true)
    (he : starEach (e :: es) X.env = (false, eval e X.env) :: starEach es X.env) (hpl : (backTo pos (starEach es X.env)).any (·.1) = false) :
    PE X (.Call (.Attribute (.Name b p1) "__init__" p2) (e :: es) [] pos) (tBI C ta) := by
  have hc := meth_form (o := .Name b p1) (nm := "__init__") (args := e :: es) (env := X.env) rfl hfm hln
  refine ⟨fun pins s σ H Q I h => ?_⟩
  have len : ∀ {ws : List V} {ur : List Value}, Vals ws ur → ws.length ≤ 1000 → ur.length ≤ sizeLine := fun {ws ur} r hl => by
    rw [← r.length, sizeLine_eq]
    omega
  cases hB with
  | @own _ C0 T hg hm hd rd ga at_ =>
    refine PySem.W.methodCall_KW (ld_glob I hg hm ?_ hd) hc
    refine PySem.W.method_cls I.kIn ga (PySem.W.cls_value I.kIn rd at_ (by decide +kernel) ?_)
    have J : Inv X pins σ H { s with toks := s.toks + 1 } := I.tok _
    refine PyProof.Rows.callWith_method1 (thn (ha.run pos pins _ σ H _ J h) fun us s1 ⟨vs, H1, I1, r1, a, ws, ev, hl, ea, q⟩ => ?_) he hpl
    subst ev
    cases r1 with
    | @cons _ u0 _ ur ra rr =>
      obtain rfl : u0 = Value.ref a := ra
      exact oinit_ok T I1 ea (len rr hl) fun s' J' => ⟨.non, H1, J', rfl, q⟩
  | exc T hg hm at_ =>
    refine PySem.W.methodCall_KW (ld_blt I hg hm PyProof.Rows.Boot.«Exception» ?_ (by decide) (by decide)) hc
    obtain ⟨m, fr⟩ := I.fr
    refine PySem.W.method_type fr I.ok.mod.kin typ_EX (by decide +kernel) at_ (by decide +kernel) ?_
    have J : Inv X pins σ H { s with toks := s.toks + 1 } := I.tok _
    refine PyProof.Rows.callWith_method1 (thn (ha.run pos pins _ σ H _ J h) fun us s1 ⟨vs, H1, I1, r1, a, ws, ev, hl, ea, q⟩ => ?_) he hpl
    subst ev
    cases r1 with
    | @cons _ u0 _ ur ra rr =>
      obtain rfl : u0 = Value.ref a := ra
      exact einit_ok T I1 ea (len rr hl) fun s' J' => ⟨.non, H1, J', rfl, q⟩
/-- self.f = e: the first one, a further one -/
def tOs (C : Addr) (f : Str) (to te : TE) : TS := fun D σ H => te σ H fun y H1 => to σ H1 fun x H2 => ∃ a : Addr, x = .ref a ∧
  ((H2 a = some (exo a C none) ∧ ∀ dx, H2 dx = none → dx ≠ a → D.nx σ (upd (upd H2 dx (exd dx [(f, y)])) a (exo a C (some dx)))) ∨
    ∃ (dx : Addr) (fs : List (Str × V)), H2 a = some (exo a C (some dx)) ∧ H2 dx = some (exd dx fs) ∧ fs.length ≤ 900 ∧ D.nx σ (upd H2 dx (exd dx ((f, y) :: fs))))
theorem ps_os (T : OexK X.K C) (hno : PySem.W.findIn X.K (.ref C) f = some none) (ho : PE X o to) (he : PE X e te) (hs : swapsWith e (some (.Attribute o f p')) pos.line X.env = pure false) : PS X (.Assign [.Attribute o f p'] e pos) (tOs C f to te) := by
  refine ⟨fun pins s σ H D I h => ?_⟩
  refine plainObj_wpAny_Assign_Attribute (thn (he.run pins s σ H _ I h) fun v s1 ⟨y, H1, I1, r1, q1⟩ => thn (ho.run pins s1 σ H1 _ I1 q1) fun u s2 ⟨x, H2, I2, r2, a, ex, q⟩ => ?_) hs
  subst ex
  obtain rfl : u = Value.ref a := r2
  rcases q with ⟨ea, q⟩ | ⟨dx, fs, ea, ed, hl, q⟩
  · rcases T with T | T
    · exact ost_new T I2 ea hno r1 fun dx s' n ne J => ⟨σ, _, J, q dx n ne⟩
    · exact est_new T I2 ea hno r1 fun dx s' n ne J => ⟨σ, _, J, q dx n ne⟩
  · rcases T with T | T
    · exact ost_old T I2 ea ed hl hno r1 fun s' J => ⟨σ, _, J, q⟩
    · exact est_old T I2 ea ed hl hno r1 fun s' J => ⟨σ, _, J, q⟩
end
/-- the promise of such an __init__ -/
def spInit (C : Addr) (fs : List Str) : Sp := fun vs H Q _ => ∃ (a : Addr) (ws : List V), vs = .ref a :: ws ∧ ws.length = fs.length ∧ fs.length ≤ 8 ∧ fs ≠ [] ∧ H a = some (exo a C none) ∧
  ∀ dx H', H dx = none → dx ≠ a → H' = upd (upd H dx (exd dx (fs.zip ws).reverse)) a (exo a C (some dx)) → Q .non H'
/-- the form of such an __init__'s body, params self and the fields -/
def asgB (N : List Str) (sc : Scope) : Nat → List Str → List Stmt → Bool
  | _, [], [] => true
  | i, f :: fs, .Assign [.Attribute (.Name s _) g _] (.Name p _) _ :: rest => decide (s = "self") && decide (g = f) && decide (N[i]? = some p) && decide (sc.names.lookup p = some .local) && !(p == ("__debug__" : Str)) && !(p == ("__classdict__" : Str)) && asgB N sc (i + 1) fs rest
  | _, _, _ => false
def initB (N : List Str) (sc : Scope) (B : Str) (fs : List Str) : List Stmt → Bool
  | .Expr (.Call (.Attribute (.Name b _) i ap) [.Name s _, .Constant (.str _) _ _] [] cp) _ :: rest => (ap.endLine == cp.line) && decide (b = B) && decide (i = "__init__") && decide (s = "self") && decide (N[0]? = some ("self" : Str)) && decide (sc.names.lookup ("self" : Str) = some .local) && decide (sc.names.lookup b = some .globalImplicit) && asgB N sc 1 fs rest
  | _ => false
theorem asgB_cons {N : List Str} {sc : Scope} {i : Nat} {f : Str} {fs : List Str} {sts : List Stmt} (h : asgB N sc i (f :: fs) sts = true) : ∃ p1 p2 p p3 p4 rest, sts = .Assign [.Attribute (.Name "self" p1) f p2] (.Name p p3) p4 :: rest ∧
    N[i]? = some p ∧ sc.names.lookup p = some .local ∧ (p == ("__debug__" : Str)) = false ∧ (p == ("__classdict__" : Str)) = false ∧ asgB N sc (i + 1) fs rest = true := by
  unfold asgB at h
  split at h
  · rename_i h'; cases h'
  · rename_i he
    cases he
    simp only [Bool.and_eq_true, decide_eq_true_eq, Bool.not_eq_true'] at h
    obtain ⟨⟨⟨⟨⟨⟨h1, h2⟩, h3⟩, h4⟩, h5⟩, h6⟩, h7⟩ := h
    subst h1 h2
    exact ⟨_, _, _, _, _, _, rfl, h3, h4, h5, h6, h7⟩
  · cases h
section
variable {X : Cx} {C : Addr}
/-- the further fields -/
theorem asg_ok (T : OexK X.K C) (h0 : X.N[0]? = some ("self" : Str)) (hs0 : X.env.scope.names.lookup ("self" : Str) = some .local) : ∀ (fs : List Str) (i : Nat) (sts : List Stmt), asgB X.N X.env.scope i fs sts = true → (∀ f ∈ fs, PySem.W.findIn X.K (.ref C) f = some none) →
    PSs X sts (fun D σ H => ∃ (a dx : Addr) (acc : List (Str × V)) (ws : List V), σ[0]? = some (some (.ref a)) ∧ H a = some (exo a C (some dx)) ∧ H dx = some (exd dx acc) ∧ dx ≠ a ∧ acc.length + fs.length ≤ 20 ∧ ws.length = fs.length ∧ (∀ j w, ws[j]? = some w → σ[i + j]? = some (some w)) ∧
      D.nx σ (upd H dx (exd dx ((fs.zip ws).reverse ++ acc))))
  | [], i, sts, h, _ => by
    cases sts with
    | cons a b => simp [asgB] at h
    | nil =>
      exact pss_imp pss_nil fun D σ H ⟨a, dx, acc, ws, e0, e1, e2, e3, e4, e5, e6, q⟩ => by
        have eu : upd H dx (exd dx acc) = H := by
          funext b
          by_cases hb : b = dx
          · rw [hb, upd_same, e2]
          · rw [upd_ne hb]
        simp only [List.zip_nil_left, List.reverse_nil, List.nil_append, eu] at q
        exact q
  | f :: fs, i, sts, h, hno => by
    obtain ⟨p1, p2, p, p3, p4, rest, rfl, h3, h4, h5, h6, h7⟩ := asgB_cons h
    have ih := asg_ok T h0 hs0 fs (i + 1) rest h7 fun f' hf => hno f' (List.mem_cons_of_mem _ hf)
    refine pss_imp (pss_cons (ps_os T (hno _ List.mem_cons_self) (pe_var h0 (.inl hs0) (by decide) (by decide)) (pe_var h3 (.inl h4) h5 h6) rfl) ih) fun D σ H ⟨a, dx, acc, ws, e0, e1, e2, e3, e4, e5, e6, q⟩ => ?_
    cases ws with
    | nil => cases e5
    | cons w ws =>
      refine ⟨w, e6 0 w rfl, .ref a, e0, a, rfl, .inr ⟨dx, acc, e1, e2, by simp only [List.length_cons] at e4; omega, a, dx, (f, w) :: acc, ws, e0, by rw [upd_ne (Ne.symm e3)]; exact e1, upd_same, e3, by simp only [List.length_cons] at e4 ⊢; omega, by simpa using e5, fun j u hj => ?_, ?_⟩⟩
      · have := e6 (j + 1) u (by simpa using hj)
        rw [show i + 1 + j = i + (j + 1) by omega]
        exact this
      · rw [upd_upd]
        simp only [List.zip_cons_cons, List.reverse_cons, List.append_assoc, List.singleton_append] at q
        exact q
/-- the whole body -/
theorem init_body {B : Str} {fs : List Str} {sts : List Stmt} (hB : BaseI X C B) (hb : initB X.N X.env.scope B fs sts = true) (hno : ∀ f ∈ fs, PySem.W.findIn X.K (.ref C) f = some none) :
    PSs X sts (fun D σ H => ∃ (a : Addr) (ws : List V), σ[0]? = some (some (.ref a)) ∧ ws.length = fs.length ∧ fs.length ≤ 8 ∧ fs ≠ [] ∧ H a = some (exo a C none) ∧ (∀ j w, ws[j]? = some w → σ[1 + j]? = some (some w)) ∧
      ∀ dx, H dx = none → dx ≠ a → D.nx σ (upd (upd H dx (exd dx (fs.zip ws).reverse)) a (exo a C (some dx)))) := by
  unfold initB at hb
  split at hb
  · rename_i b _ i _ s _ t _ _ _ _ rest
    rw [Bool.and_eq_true, Bool.and_eq_true, Bool.and_eq_true, Bool.and_eq_true, Bool.and_eq_true, Bool.and_eq_true, Bool.and_eq_true] at hb
    simp only [decide_eq_true_eq] at hb
    obtain ⟨⟨⟨⟨⟨⟨⟨h0, h1⟩, h2⟩, h3⟩, h4⟩, h5⟩, h6⟩, h7⟩ := hb
    subst h1 h2 h3
    cases fs with
    | nil => exact ⟨fun pins s σ H D I ⟨a, ws, _, _, _, ne, _⟩ => absurd rfl ne⟩
    | cons f fs =>
      obtain ⟨q1, q2, p, q3, q4, rest', rfl, g3, g4, g5, g6, g7⟩ := asgB_cons h7
      have ih := asg_ok hB.k h4 h5 fs 2 rest' g7 fun f' hf => hno f' (List.mem_cons_of_mem _ hf)
      refine pss_imp (pss_cons (ps_expr (pe_binit hB (pa_cons (pe_var h4 (.inl h5) (by decide) (by decide)) (pa_cons pe_str pa_nil)) rfl h0 rfl rfl)) (pss_cons (ps_os hB.k (hno _ List.mem_cons_self) (pe_var h4 (.inl h5) (by decide) (by decide)) (pe_var g3 (.inl g4) g5 g6) rfl) ih)) fun D σ H ⟨a, ws, e0, e1, e2, e3, e4, e5, q⟩ => ?_
      cases ws with
      | nil => cases e1
      | cons w ws =>
        refine ⟨.ref a, e0, a, _, rfl, by simp, e4, w, e5 0 w rfl, .ref a, e0, a, rfl, .inl ⟨e4, fun dx hd ne => ⟨a, dx, [(f, w)], ws, e0, upd_same, by rw [upd_ne ne, upd_same], ne, by simp only [List.length_cons, List.length_nil] at e2 ⊢; omega, by simpa using e1, fun j u hj => ?_, ?_⟩⟩⟩
        · have := e5 (j + 1) u (by simpa using hj)
          rw [show 2 + j = 1 + (j + 1) by omega]
          exact this
        · have := q dx hd ne
          simp only [List.zip_cons_cons, List.reverse_cons] at this
          have eu : ∀ o o' u : HO, upd (upd (upd H dx o) a u) dx o' = upd (upd H dx o') a u := fun o o' u => by
            funext b
            by_cases hb : b = dx
            · subst hb; rw [upd_same, upd_ne ne, upd_same]
            · rw [upd_ne hb]
              by_cases hb2 : b = a
              · subst hb2; rw [upd_same, upd_same]
              · rw [upd_ne hb2, upd_ne hb2, upd_ne hb, upd_ne hb]
          rw [eu]
          exact this
  · cases hb
end
/-! ### raise C(e, ..) -/
/-- an exception's class -/
structure XC where
  nm : Str
  fs : List Str
  base : Str
  sup : List Str
/-- what the class says of __class__ -/
structure IsC (K : PySem.W.Frag) (C : Addr) : Prop where
  ha : PySem.W.findIn K (.ref C) "__class__" = some (some (.builtin "object.__class__"))
  hn : PySem.W.specialIn K (.builtin "object.__class__") "__get__" = some (some (.builtin "getset_descriptor.__get__"))
  ht : PySem.W.takesIn K (.builtin "object.__class__") = some true
  hm : PySem.W.mroIn K C (.type "object") = some true
/-- what is known of an exception's class and its __init__ -/
structure XcK (P : Program) (w : World) (K : PySem.W.Frag) (mg : Str → Option Value) (base : Heap) (x : XC) (C : Addr) : Prop where
  at_ : PySem.W.nsIn K mainGlobals x.nm = some (some (.ref C))
  gm : mg x.nm = some (.ref C)
  k : OexK K C
  fl : x.fs ≠ [] ∧ x.fs.length ≤ 8
  xf : XfC K C
  ic : IsC K C
  no : ∀ f ∈ x.fs, PySem.W.findIn K (.ref C) f = some none
  ini : ∃ (fI : Addr) (fd : FuncData) (ps : List Str), PySem.W.findIn K (.ref C) "__init__" = some (some (.ref fI)) ∧ PySem.W.typeIn K (.ref fI) = some (.type "function") ∧ FnOk P w K mg base (CX P w) 2 fI fd ps (spInit C x.fs) ∧ Binds K fd ps []
section
variable {X : Cx} {C : Addr} {y_ : Yc} {xs : List Expr} {rs : RA} {p pos cpos : Pos} {e : Expr} {es : List Expr} {ta : TA}
/-- C(e, ..) of a class over Exception or ValueError, made to be raised -/
def tMkG (C : Addr) (fs : List Str) (ta : TA) : L2.St → Hp → XK → Prop := fun σ H Q => ta σ H fun vs H1 => vs.length = fs.length ∧ ∀ d : Addr, H1 d = none → Q (.ref C) (some d) (upd H1 d (.xd (fs.zip vs).reverse))
theorem pmk_g {x : XC} (T : XcK X.prog X.w X.K X.mg X.base x C) (hr : Room 3 X.A) (hg : Gl X x.nm) (ha : PA X (e :: es) ta) (hdb : (x.nm == ("__debug__" : Str)) = false) (he : starEach (e :: es) X.env = (false, eval e X.env) :: starEach es X.env) (hpl : (backTo cpos (starEach es X.env)).any (·.1) = false) :
    PMk X (.Call (.Name x.nm p) (e :: es) [] cpos) (tMkG C x.fs ta) := by
  intro pins s σ H Q I h
  obtain ⟨fI, fd, ps, iC, tI, F1, hb⟩ := T.ini
  refine wpAny_Call_Name_kw (ld_glob I hg T.gm ?_ hdb)
  refine PySem.W.callWith_K (h₀ := X.base) I.ok.mod.kin T.k.kC (thn (ha.run cpos pins s σ H _ I h) fun us s1 ⟨vs, H1, I1, r1, hz, q1⟩ => ⟨I1.kIn, ?_⟩) he hpl
  obtain ⟨hp, g, dr, tk, os⟩ := s1
  have hsz : hp.objs.size ≤ hp.objs.size + 1 := Nat.le_succ _
  have hn : H1 (hp.objs.size + 1) = none := I1.hok.fresh hsz
  have keep : ∀ b o, hp.get? b = some o → ((hp.push (PySem.W.kdv_tup us)).push (PySem.HandSPX.excO C hp.objs.size)).get? b = some o := fun b o z => Heap.get?_push_of_some _ (Heap.get?_push_of_some _ z)
  have there : ((hp.push (PySem.W.kdv_tup us)).push (PySem.HandSPX.excO C hp.objs.size)).get? (hp.objs.size + 1) = some (PySem.HandSPX.excO C hp.objs.size) := by heap_get
  have I2 := I1.laid (t' := tk) (a := hp.objs.size + 1) (o := exo (hp.objs.size + 1) C none) (h' := (hp.push (PySem.W.kdv_tup us)).push (PySem.HandSPX.excO C hp.objs.size)) keep hsz (exo_ok there)
  have r2 : Vals (V.ref (hp.objs.size + 1) :: vs) (Value.ref (hp.objs.size + 1) :: us) := .cons rfl r1
  have hq : spInit C x.fs (V.ref (hp.objs.size + 1) :: vs) (upd H1 (hp.objs.size + 1) (exo (hp.objs.size + 1) C none)) (fun v H2 => v = .non ∧ ∃ (d : Addr), H2 (hp.objs.size + 1) = some (exo (hp.objs.size + 1) C (some d)) ∧ H2 d = some (exd d (x.fs.zip vs).reverse) ∧ H1 d = none ∧ d ≠ hp.objs.size + 1 ∧ Q (.ref C) (some d) (upd (del H2 (hp.objs.size + 1)) d (.xd (x.fs.zip vs).reverse))) (fun _ _ _ => False) := by
    refine ⟨_, vs, rfl, hz, T.fl.2, T.fl.1, upd_same, fun dx H' hd ne eH => ⟨rfl, dx, ?_⟩⟩
    rw [upd_ne ne] at hd
    subst eH
    refine ⟨upd_same, by rw [upd_ne ne, upd_same], hd, ne, ?_⟩
    have eq : upd (del (upd (upd (upd H1 (hp.objs.size + 1) (exo (hp.objs.size + 1) C none)) dx (exd dx (x.fs.zip vs).reverse)) (hp.objs.size + 1) (exo (hp.objs.size + 1) C (some dx))) (hp.objs.size + 1)) dx (.xd (x.fs.zip vs).reverse) = upd H1 dx (.xd (x.fs.zip vs).reverse) := by
      funext b
      by_cases h1 : b = dx
      · rw [h1, upd_same, upd_same]
      · rw [upd_ne h1, upd_ne h1]
        by_cases h2 : b = hp.objs.size + 1
        · rw [h2, del_same, hn]
        · rw [del_ne h2, upd_ne h2, upd_ne h1, upd_ne h2]
    rw [eq]
    exact q1 dx hd
  have hl : (Value.ref (hp.objs.size + 1) :: us).length = ps.length := by rw [← F1.len _ _ _ _ hq]; exact r2.length.symm
  have hus : us.length ≤ sizeLine := by
    have := T.fl.2
    rw [← Paired.length r1, hz, sizeLine_eq]
    omega
  have bb := hb _ (Value.ref (hp.objs.size + 1) :: us) I2.kIn (by rw [List.append_nil]; exact hl)
  rw [List.append_nil] at bb
  have fin : ∀ (r : Result) (s' : Shared), CR (CX X.prog X.w) X.stack X.prog X.w (upd H1 (hp.objs.size + 1) (exo (hp.objs.size + 1) C none)) ⟨(hp.push (PySem.W.kdv_tup us)).push (PySem.HandSPX.excO C hp.objs.size), g, dr, tk, os⟩ (fun v H2 => v = .non ∧ ∃ (d : Addr), H2 (hp.objs.size + 1) = some (exo (hp.objs.size + 1) C (some d)) ∧ H2 d = some (exd d (x.fs.zip vs).reverse) ∧ H1 d = none ∧ d ≠ hp.objs.size + 1 ∧ Q (.ref C) (some d) (upd (del H2 (hp.objs.size + 1)) d (.xd (x.fs.zip vs).reverse))) (fun _ _ _ => False) r s' →
      PySem.W.InitBack (hp.objs.size + 1) (fun r s' => match r with | .ok (.ret v) => MkP X pins σ Q v s' | .ok _ => False | .error e => X.xe e s') r s' := fun r s' hq' => by
    cases r with
    | error er =>
      obtain ⟨_, _, _, _, _, _, _, _, _, _, _, _, z⟩ := hq'
      exact z.elim
    | ok fl =>
      cases fl with
      | ret u =>
        obtain ⟨v, H2, os2, bare2, un2, hok2, rv, ev, d, ea, ed, hd1, ne, q2⟩ := hq'
        subst ev
        obtain ⟨h2, g2, d2, t2, os'⟩ := s'
        exact ⟨rv, mk_end (raises_own T.k.exC T.k.tyC) I1 hsz keep un2 hok2 os2 bare2 ea ed hd1 q2⟩
      | next => exact False.elim hq'
      | brk => exact False.elim hq'
      | cont => exact False.elim hq'
  have run := codeAny_mono (F1.run _ X.stack _ _ ⟨Value.ref (hp.objs.size + 1) :: us, []⟩ (Value.ref (hp.objs.size + 1) :: us) _ _ (fun _ _ _ => False) (Room.make hr C us []) (I2.env0.make C us []) bb r2 hq) fin
  rcases T.k with T1 | T1
  · obtain ⟨nm, qn, N, bs, bm, sn, sub, ab, col, dd, k0, k1, k2, k3, k5, hC, hbm⟩ := T1.cls
    exact wpAny_call (codeAny_mono (PySem.HandSPX.call_own F.excBase_ValueError (fun Y => PySem.HandSPX.refsVE_contains Y bm hbm) (I1.kIn _ _ hC) (PySem.W.looks_findIn I1.kIn iC) (fun self => PySem.W.bind_fn I1.kIn self tI) hus run) fun r s' z => z)
  · obtain ⟨nm, qn, N, bs, sn, sub, ab, col, dd, k0, k1, k2, k3, k5, hC⟩ := T1.cls
    exact wpAny_call (codeAny_mono (PySem.HandSPX.call_own F.excBase_Exception (fun Y => rfl) (I1.kIn _ _ hC) (PySem.W.looks_findIn I1.kIn iC) (fun self => PySem.W.bind_fn I1.kIn self tI) hus run) fun r s' z => z)
end
end Pv

namespace Pv
open PySem PySem.Spec PyProof.Rows L2
variable [TabT]
section
variable {X : Cx} {x y w e : Expr} {te : TE} {pos : Pos} {ra rb rc : RE} {y_ : Yc}
theorem rz_ok {α β : Type} {r : Rz α} {f : α → M → Rz β} {b : β} {m : M} (h : r.bind f = .ok b m) : ∃ a m1, r = .ok a m1 ∧ f a m1 = .ok b m := by
  cases r with
  | no => cases h
  | ex x m => cases h
  | ok a m1 => exact ⟨a, m1, rfl, h⟩
theorem rev_all (z : Str) : ((Builtin.Str.strSliceIndices none none (-1) z.length).filterMap (z.cps[·]?)).toArray = (revT z).cps := by
  rw [PyProof.Rows.picked_rev, PySem.W.krv_range]
  show ((List.range z.cps.size).reverse.filterMap (z.cps[·]?)).toArray = z.cps.toList.reverse.toArray
  rw [List.filterMap_reverse, PySem.W.krv_all]
theorem pe_revA {k : Nat} {p1 p2 p3 : Pos} (he : PE X e te) : PE X (.Subscript e (.Slice none none (some (.UnaryOp .USub (.Constant (.int 1) k p1) p2)) p3) pos) (fun σ H Q => te σ H fun x H1 =>
    (∃ a xs, x = .ref a ∧ SqL X.K H1 a xs ∧ ∀ p, H1 p = none → Q (.ref p) (upd H1 p (.lst xs.reverse))) ∨ ∃ z, x = .str z ∧ z.length ≤ sizeLine ∧ Q (.str (revT z)) H1) := by
  refine ⟨fun pins s σ H Q I h => ?_⟩
  refine Subscript_ (thn (he.run pins s σ H _ I h) fun v s1 ⟨x, H1, I1, r1, q1⟩ => ?_)
  have hst : PO X (some (.UnaryOp .USub (.Constant (.int 1) k p1) p2)) (tPart (tUn (rU fun i => .int (-i)) (tC (.int 1)))) := po_some (pe_un un_neg pe_int)
  refine wpAny_Slice (thn (po_none.run pins s1 σ H1 (fun o H2 => o = none ∧ H2 = H1) I1 ⟨rfl, rfl⟩) fun vl s2 ⟨l, H2, I2, pl, el, e2⟩ => ?_)
  subst el e2
  refine thn (po_none.run pins s2 σ H2 (fun o H3 => o = none ∧ H3 = H2) I2 ⟨rfl, rfl⟩) fun vu s3 ⟨u, H3, I3, pu, eu, e3⟩ => ?_
  subst eu e3
  refine thn (hst.run pins s3 σ H3 (fun o H4 => o = some (-1) ∧ H4 = H3) I3 ⟨1, rfl, -1, rfl, rfl, rfl⟩) fun vs s4 ⟨o, H4, I4, ps, eo, e4⟩ => ?_
  subst eo e4
  have I5 : Inv X pins σ H4 { s4 with heap := s4.heap.push { cls := .type "slice", data := .fields #[vl, vu, vs] } } := I4.kept (t' := s4.toks) fun b ob q => Heap.get?_push_of_some _ q
  show wpAny (model X.prog X.w) X.A (subscriptTail e (.Slice none none (some (.UnaryOp .USub (.Constant (.int 1) k p1) p2)) p3) v (.ref s4.heap.objs.size)) (EP X pins σ Q) X.xe { s4 with heap := s4.heap.push { cls := .type "slice", data := .fields #[vl, vu, vs] } }
  rcases q1 with ⟨a, xs, ex, hx, q⟩ | ⟨z, ex, hz, q⟩
  · subst ex
    cases r1
    obtain ⟨its, r, ht, hz⟩ := I5.list hx
    have hlen := r.length
    refine tail_any (ops := [.ref a, .ref s4.heap.objs.size]) ht.isList.typeIs (PySem.slot_list_getitem.lookup) ?_ (by with_unfolding_all rfl)
    refine wpAny_getItem_list_slice ht.isList (Heap.IsSliceOf.new _ vl vu vs) pl pu ps (by decide) ?_ (by rw [List.size_toArray]; omega)
    rw [PySem.W.krv_pick]
    refine ⟨.ref _, _, I5.laid (t' := s4.toks) (o := .lst xs.reverse) (fun b ob q => Heap.get?_push_of_some _ q) (Nat.le_refl _) ?_, rfl, q _ (I5.hok.fresh (Nat.le_refl _))⟩
    exact ⟨by rw [List.length_reverse]; exact hz, _, 0, r.reverse, Heap.get?_push_size _ rfl⟩
  · subst ex
    obtain ⟨t, rfl⟩ := r1
    obtain ⟨l, rfl, hl⟩ := IsPart.raw pl
    obtain ⟨u, rfl, hu⟩ := IsPart.raw pu
    obtain ⟨st, rfl, hst⟩ := IsPart.raw ps
    refine tail_any (ops := [.ref s4.heap.objs.size, .str z t]) (typeIs_str _ _ _) (F.slot_str_getitem.lookup) ?_ (by with_unfolding_all rfl)
    refine wpAny_getItem_str_slice (l := l) (u := u) (st := st) ⟨_, Heap.get?_push_size _ rfl, rfl, rfl⟩ (by rw [hst]; rfl) ?_
    have e1 : sliceMade z t l u st = Made.str (revT z) := by
      unfold sliceMade slicePicked
      rw [hst, hl, hu]
      show (if (((-1 : Int) == 1) && _) = true then _ else Made.str ⟨((Builtin.Str.strSliceIndices none none (-1) z.length).filterMap (z.cps[·]?)).toArray⟩) = _
      rw [if_neg (by simp), rev_all]
    rw [e1]
    refine ⟨?_, .str _, H4, I5.tok _, ⟨_, rfl⟩, q⟩
    show (z.cps.toList.reverse.toArray).size ≤ sizeLine
    rw [List.size_toArray, List.length_reverse, Array.length_toList]
    exact hz
def rRev_ (ra : RE) : RE := fun env m => (ra env m).bind fun x m => .of (revD m x) m
theorem rep_rev {K : PySem.W.Frag} {Z : Addr → Prop} {ph : List Addr} {H : Hp} : ∀ {vs : List V} {ds : List D}, RepVs K Z ph H vs ds → RepVs K Z ph H vs.reverse ds.reverse
  | _, _, .nil => .nil
  | v :: vs, d :: ds, .cons h r => by
    rw [List.reverse_cons, List.reverse_cons]
    exact (rep_rev r).append (.cons h .nil)
theorem n_rev {k : Nat} {p1 p2 p3 : Pos} (ha : PE X x (tEv X.K y_ ra)) : PE X (.Subscript x (.Slice none none (some (.UnaryOp .USub (.Constant (.int 1) k p1) p2)) p3) pos) (tEv X.K y_ (rRev_ ra)) :=
  pe_imp (pe_revA ha) fun σ H Q ⟨Z, ph, env, m, re, wd, q⟩ => ev_bind re wd q fun d m1 ph1 H1 v s1 w1 re1 r1 q => by
    obtain ⟨z, h2, qz⟩ := q.pv
    unfold revD at h2
    split at h2
    · rename_i xs he
      cases h2
      obtain ⟨a, vs, rfl, h4, r4⟩ := rd_lst w1 r1 he
      exact .inl ⟨a, vs, rfl, SqL.of h4, fun b hb => (qz.np w1).upd w1 hb (rep_rev r4)⟩
    · rename_i z he
      split at h2
      · rename_i hz
        cases h2
        obtain rfl := rd_str r1 he
        exact .inr ⟨z, rfl, by rw [← lim_eq]; exact hz, qz.here w1 (.str _)⟩
      · cases h2
    · cases h2
theorem strs_rep {K : PySem.W.Frag} {Z : Addr → Prop} {ph : List Addr} {H : Hp} : ∀ {ds : List D} {ns : List Str} {vs : List V}, strsD ds = some ns → RepVs K Z ph H vs ds → vs = ns.map V.str
  | [], ns, vs, h, r => by cases h; cases r; rfl
  | d :: ds, ns, vs, h, r => by
    cases r with
    | cons h0 r =>
      cases d <;> simp only [strsD] at h <;> try cases h
      obtain ⟨ms, h1, rfl⟩ := Option.map_eq_some_iff.mp h
      cases h0
      rw [strs_rep h1 r]
      rfl
def rJoin_ (ra rb : RE) : RE := fun env m => (ra env m).bind fun x m => grd (isStr x) ((rb env m).bind fun y m => .of (joinD m x y) m)
theorem isStr_of {d : D} (h : isStr d = true) : ∃ l, d = .str l := by
  cases d <;> first | (exact ⟨_, rfl⟩) | (simp [isStr] at h)
theorem n_join {c : Const} {k : Nat} {pc apos : Pos} (ha : PE X (.Constant c k pc) (tEv X.K y_ ra)) (hb : PE X y (tEv X.K y_ rb)) (hl : (apos.endLine == pos.line) = true) (hs : starEach [y] X.env = [(false, eval y X.env)]) :
    PE X (.Call (.Attribute (.Constant c k pc) "join" apos) [y] [] pos) (tEv X.K y_ (rJoin_ ra rb)) :=
  pe_imp (pe_join ha hb hs rfl hl) fun σ H Q ⟨Z, ph, env, m, re, wd, q⟩ => ev_bind re wd q fun d m1 ph1 H1 v s1 w1 re1 r1 q => by
    obtain ⟨hr, q⟩ := q.grd
    obtain ⟨a, rfl⟩ := isStr_of hr
    cases r1
    refine ⟨⟨a, rfl⟩, ev_bind re1 w1 q fun d2 m2 ph2 H2 w s2 w2 re2 r2 q => ?_⟩
    obtain ⟨z, h3, qz⟩ := q.pv
    simp only [joinD] at h3
    obtain ⟨ys, e1, h3⟩ := Option.bind_eq_some_iff.mp h3
    obtain ⟨ss, e2, h3⟩ := Option.bind_eq_some_iff.mp h3
    split at h3
    · rename_i hz
      cases h3
      obtain ⟨b, ws, rfl, h4, r4⟩ := rd_seq w2 r2 e1
      rw [strs_rep e2 r4] at h4
      rw [← TL.join_eq] at qz
      exact ⟨a, b, ss, rfl, rfl, h4, hz, qz.here w2 (.str _)⟩
    · cases h3
def rFmt_ (ra : RE) : RE := fun env m => (ra env m).bind fun x m => .of (txtD x) m
theorem n_fmt (ha : PE X x (tEv X.K y_ ra)) : PE X (.FormattedValue x (-1) none pos) (tEv X.K y_ (rFmt_ ra)) :=
  pe_imp (pe_fmt ha) fun σ H Q ⟨Z, ph, env, m, re, wd, q⟩ => ev_bind re wd q fun d m1 ph1 H1 v s1 w1 re1 r1 q => by
    obtain ⟨z, h2, qz⟩ := q.pv
    cases d <;> simp only [txtD] at h2 <;> try cases h2
    · split at h2
      · rename_i hz
        cases h2
        cases r1
        exact .inr ⟨_, rfl, hz, qz.here w1 (.str _)⟩
      · cases h2
    · split at h2
      · rename_i hz
        cases h2
        cases r1
        exact .inl ⟨_, rfl, by rw [← lim_eq]; exact hz, qz.here w1 (.str _)⟩
      · cases h2
section
variable (K : PySem.W.Frag) (y_ : Yc) (F : Fn) (G : List D)
def tesOf : Es → List TE
  | .nil => []
  | .cons e es => tEv K y_ (fun env m => evE F G y_.cx e env m) :: tesOf es
end
theorem calm_ok {α : Type} {r : Rz α} {p : α × M} (h : calmR r = some p) : r = .ok p.1 p.2 := by
  cases r <;> simp only [calmR] at h <;> cases h
  rfl
theorem js_run {K : PySem.W.Frag} {F : Fn} {G : List D} {σ : L2.St} {Q : Str → Hp → Prop} {Z : Addr → Prop} {env : Env} : ∀ (as : Es) (acc : Str) {ph : List Addr} {H : Hp} {m m' : M} {ds : List D} {out : Str}, RepE K y_ Z ph H σ env → Wd K Z ph m H → evA F G y_.cx as env m = .ok ds m' → gluD acc ds = some out →
    (∀ ph' H', Sx ph H ph' H' → Wd K Z ph' m' H' → Q out H') → tJs (tesOf K y_ F G as) acc σ H Q
  | .nil, acc, ph, H, m, m', ds, out, re, wd, h, hg, q => by
    rw [evA] at h
    cases h
    cases hg
    exact q ph H Sx.refl wd
  | .cons e es, acc, ph, H, m, m', ds, out, re, wd, h, hg, q => by
    rw [evA] at h
    obtain ⟨d, m1, h1, h⟩ := rz_ok h
    obtain ⟨ds', m2, h2, h⟩ := rz_ok h
    cases h
    refine ⟨Z, ph, env, m, re, wd, ?_⟩
    show FinG K y_ Z ph H σ (evE F G y_.cx e env m) _
    rw [h1]
    intro ph1 H1 s1 w1 v r1
    clear h
    cases d <;> simp only [gluD] at hg <;> try cases hg
    split at hg
    · rename_i hz
      cases r1
      exact ⟨_, rfl, by rw [← lim_eq]; exact hz, js_run es _ (re.mono s1) w1 h2 hg fun ph' H' s w => q ph' H' (s1.trans s) w⟩
    · cases hg
theorem n_fstr {F : Fn} {G : List D} {as : Es} {z : Expr} {r : List Expr} (h : PJ X (y :: z :: r) (tesOf X.K y_ F G as)) : PE X (.JoinedStr (y :: z :: r) pos) (tEv X.K y_ fun env m => match calmR (evA F G y_.cx as env m) with
    | some p => .of ((gluD Str.empty p.1).map .str) p.2
    | none => .no) :=
  pe_imp (pe_joined h) fun σ H Q ⟨Z, ph, env, m, re, wd, q⟩ => by
    simp only at q
    split at q
    · rename_i p hp
      obtain ⟨z, hz, qz⟩ := q.pv
      obtain ⟨out, h2, rfl⟩ := Option.map_eq_some_iff.mp hz
      exact js_run as Str.empty re wd (calm_ok hp) h2 fun ph' H' s w => (qz.after s).here w (.str _)
    · exact q.elim
/-! ### code that is never run; is True; index -/
theorem n_dead {r : RE} (h : ∀ env m, r env m = .no) : PE X x (tEv X.K y_ r) := ⟨fun pins s σ H Q I ⟨Z, ph, env, m, re, wd, q⟩ => by rw [h] at q; exact q.elim⟩
theorem t_dead {r : RE} (h : ∀ env m, r env m = .no) : PT X x (tEvT X.K y_ r) := ⟨fun pins s σ H Q I ⟨Z, ph, env, m, re, wd, q⟩ => by rw [h] at q; exact q.elim⟩
def rIsB_ (ra : RE) (b : Bool) : RE := fun env m => (ra env m).bind fun x m => .of (isBD b x) m
theorem n_isB {b : Bool} {k : Nat} {pos' : Pos} (ha : PE X x (tEv X.K y_ ra)) : PE X (.Compare x [.Is] [.Constant (.bool b) k pos'] pos) (tEv X.K y_ (rIsB_ ra b)) :=
  pe_imp (pe_cmpR op_isBl ha (pe_bl (b := b) (j := k) (pos := pos')) rfl) fun σ H Q ⟨Z, ph, env, m, re, wd, q⟩ => ev_bind re wd q fun d m1 ph1 H1 v s1 w1 re1 r1 q => by
    obtain ⟨z, hz, qz⟩ := q.pv
    cases d <;> simp only [isBD] at hz <;> try cases hz
    cases r1
    exact ⟨_, b, rfl, rfl, qz.here w1 (.bl _)⟩
theorem t_isB {b : Bool} {k : Nat} {pos' : Pos} (ha : PE X x (tEv X.K y_ ra)) : PT X (.Compare x [.Is] [.Constant (.bool b) k pos'] pos) (tEvT X.K y_ (rIsB_ ra b)) :=
  pt_imp (pt_cmpR op_isBl ha (pe_bl (b := b) (j := k) (pos := pos')) rfl) fun σ H Q ⟨Z, ph, env, m, re, wd, q⟩ => ev_bind re wd q fun d m1 ph1 H1 v s1 w1 re1 r1 q => by
    obtain ⟨z, hz, qz⟩ := q.of
    cases d <;> simp only [isBD] at hz <;> try cases hz
    cases r1
    obtain ⟨c, e, q⟩ := qz ph1 H1 Sx.refl w1
    cases e
    exact ⟨_, b, rfl, rfl, _, rfl, q⟩
def rIndex_ (ra rb : RE) : RE := fun env m => (ra env m).bind fun x m => grd (isLs x) ((rb env m).bind fun y m => .of (indexD m x y) m)
theorem n_index {o : Expr} {apos : Pos} (hbase : attributeBase o "index" X.env (eval o X.env) = eval o X.env) (ha : PE X o (tEv X.K y_ ra)) (hb : PE X y (tEv X.K y_ rb)) (hl : (apos.endLine == pos.line) = true) (hs : starEach [y] X.env = (false, eval y X.env) :: starEach [] X.env) :
    PE X (.Call (.Attribute o "index" apos) [y] [] pos) (tEv X.K y_ (rIndex_ ra rb)) :=
  pe_imp (pe_bm PySem.F.plainAttrs_list PySem.F.slot_list_index PySem.F.type_list_index mt_index ha (pa_cons hb pa_nil hs) hbase (few1 hs) hl hs rfl) fun σ H Q ⟨Z, ph, env, m, re, wd, q⟩ => ev_bind re wd q fun d m1 ph1 H1 v s1 w1 re1 r1 q => by
    obtain ⟨hr, q⟩ := q.grd
    have hty : ∃ a vs0, v = .ref a ∧ H1 a = some (.lst vs0) := by
      cases d with
      | lst ds => cases r1 with
        | lst h n z r => exact ⟨_, _, rfl, h⟩
      | ref l => obtain ⟨a, vs, e1, e2, e3⟩ := first_ref r1; exact ⟨a, vs, e1, e3⟩
      | _ => simp [isLs] at hr
    obtain ⟨a, vs0, rfl, hv0⟩ := hty
    refine ⟨.inl ⟨rfl, _, SqL.of hv0⟩, ev_bind re1 w1 q fun d2 m2 ph2 H2 w s2 w2 re2 r2 q => ?_⟩
    obtain ⟨z, h3, qz⟩ := q.pv
    unfold indexD at h3
    split at h3
    · rename_i xs he
      split at h3
      · rename_i hk
        simp only [Bool.and_eq_true] at hk
        obtain ⟨j, hj, e⟩ := Option.map_eq_some_iff.mp h3
        cases e
        obtain ⟨a', vs, e1, h4, r4⟩ := rd_lst w2 (r1.mono s2) he
        cases e1
        obtain ⟨hjl, hj1, hj2⟩ := List.findIdx?_eq_some_iff_getElem.mp hj
        have hfl : ∀ i (h : i < xs.length), flatD xs[i] = true := fun i h => List.all_eq_true.mp hk.2 _ (List.getElem_mem h)
        obtain ⟨z, hz, rz⟩ := r4.get (List.getElem?_eq_getElem hjl)
        refine ⟨a, vs, w, j, z, rfl, rfl, SqL.of h4, flat_rep r2 hk.1, flats_rep r4 hk.2, hz, ?_, fun i z' hi hz' => ?_, qz.here w2 (.int _)⟩
        · rw [eqF_rep rz (hfl j hjl) r2 hk.1]; exact hj1
        · have hil : i < xs.length := by omega
          obtain ⟨z2, hz2, rz2⟩ := r4.get (List.getElem?_eq_getElem hil)
          rw [hz'] at hz2
          cases hz2
          rw [eqF_rep rz2 (hfl i hil) r2 hk.1]
          simpa using hj2 i hi
      · cases h3
    · cases h3
/-! ### what a suite holds -/
theorem n_xat {S : Sx_} {i : Nat} {s f : Str} {p : Pos} (hX : XOk X S y_) (hcl : ∀ n ∈ S.xn, ∃ C, PySem.W.nsIn X.K mainGlobals n = some (some (.ref C)) ∧ XfC X.K C ∧ PySem.W.findIn X.K (.ref C) f = some none) (hv : PE X (.Name s p) (tVar i)) :
    PE X (.Attribute (.Name s p) f pos) (tEv X.K y_ fun _ m => .of (xatD i f y_.cx) m) := by
  refine ⟨fun pins s_ σ H Q I ⟨Z, ph, env, m, re, wd, q⟩ => ?_⟩
  obtain ⟨z, hz, qz⟩ := q.pv
  cases hc : y_.cx with
  | none => rw [hc] at hz; simp [xatD] at hz
  | some jx =>
    obtain ⟨j, x⟩ := jx
    rw [hc] at hz
    simp only [xatD] at hz
    split at hz
    · rename_i hij
      subst hij
      obtain ⟨a, cls, d, e1, e2, C, dx, fvs, rfl, rfl, e3, e4, rf⟩ := re.xc i x hc
      obtain ⟨X', oe, pn, eX, hZ, hfv⟩ := hX.pin a _ _ e1
      obtain ⟨C', h1, h2, h3⟩ := hcl x.nm (hX.xs i x hc).2
      have := ns_one e3 h1
      subst this
      obtain ⟨u, h4, r4⟩ := (fget_rep rf).1 z hz
      subst eX
      exact (pe_xf (X := X') (te := tVar i) h2 h3 hZ hfv hv).run pins s_ σ H Q I ⟨_, e2, rfl, rfl, dx, fvs, u, rfl, e4, h4, qz.here wd r4⟩
    · cases hz
end
end Pv

namespace Pv
open PySem L2
variable [TabT]

/-! ## targets -/
theorem wipe_get (σ : L2.St) : ∀ (l : List Nat) (j : Nat), (wipe σ l)[j]? = if j ∈ l then (σ[j]?).map (fun _ => none) else σ[j]?
  | [], j => by simp [wipe]
  | v :: l, j => by
    unfold wipe
    by_cases e : v = j
    · subst e
      rw [if_pos (by simp)]
      by_cases h : v < (wipe σ l).length
      · rw [List.getElem?_set_self h]
        rw [wipe_length] at h
        rw [List.getElem?_eq_getElem h]; rfl
      · rw [List.getElem?_eq_none (by simpa using h)]
        rw [wipe_length] at h
        rw [List.getElem?_eq_none (by omega)]; rfl
    · rw [List.getElem?_set_ne e, wipe_get σ l j]
      by_cases h : j ∈ l
      · rw [if_pos h, if_pos (by simp [h])]
      · rw [if_neg h, if_neg (by simp [h]; exact fun q => e q.symm)]
theorem wipe_set {σ : L2.St} {i : Nat} {o : Option V} {l : List Nat} (h : i ∈ l) : wipe (σ.set i o) l = wipe σ l := by
  apply List.ext_getElem?
  intro j
  rw [wipe_get, wipe_get]
  by_cases e : i = j
  · subst e
    rw [if_pos h, if_pos h]
    by_cases q : i < σ.length
    · rw [List.getElem?_set_self q, List.getElem?_eq_getElem q]; rfl
    · rw [List.getElem?_eq_none (by simpa using q), List.getElem?_eq_none (by omega)]
  · rw [List.getElem?_set_ne e]
theorem wipe_wipe (σ : L2.St) (l : List Nat) : wipe (wipe σ l) l = wipe σ l := by
  apply List.ext_getElem?
  intro j
  rw [wipe_get, wipe_get]
  by_cases h : j ∈ l
  · rw [if_pos h, if_pos h]
    cases σ[j]? <;> rfl
  · rw [if_neg h, if_neg h]
mutual
def tgIn (l : List Nat) : Tg → Bool
  | .nm i => decide (i ∈ l)
  | .tp ts => tgsIn l ts
  | .up ts => tgsIn l ts
def tgsIn (l : List Nat) : Tgs → Bool
  | .nil => true
  | .cons t ts => tgIn l t && tgsIn l ts
end
def gT (K : PySem.W.Frag) (y : Yc) (t : Tg) : TG := fun v σ H Q => ∃ Z ph env m d env', RepE K y Z ph H σ env ∧ Wd K Z ph m H ∧ RepV K Z ph H v d ∧ bindTg m t d env = some env' ∧
  ∀ σ', RepE K y Z ph H σ' env' → (∀ l, tgIn l t = true → wipe σ' l = wipe σ l) → Q σ' H
def gTs (K : PySem.W.Frag) (y : Yc) (ts : Tgs) : TGs := fun vs σ H Q => ∃ Z ph env m ds env', RepE K y Z ph H σ env ∧ Wd K Z ph m H ∧ RepVs K Z ph H vs ds ∧ bindTgs m ts ds env = some env' ∧
  ∀ σ', RepE K y Z ph H σ' env' → (∀ l, tgsIn l ts = true → wipe σ' l = wipe σ l) → Q σ' H
theorem pg_imp {X : Cx} {x : Expr} {t t' : TG} (h : PG X x t) (i : ∀ v σ H Q, t' v σ H Q → t v σ H Q) : PG X x t' := ⟨fun pins s σ H v u Q I r w => h.run pins s σ H v u Q I r (i v σ H Q w)⟩
theorem pgs_imp {X : Cx} {x : List Expr} {t t' : TGs} (h : PGs X x t) (i : ∀ v σ H Q, t' v σ H Q → t v σ H Q) : PGs X x t' := ⟨fun pins s σ H v u Q I r w => h.run pins s σ H v u Q I r (i v σ H Q w)⟩
def locB (S : Sx_) (x : Str) : Bool := match S.sc.names.lookup x with
  | some .local => true
  | some .cell => S.fb x
  | _ => false
theorem locB_ok {X : Cx} {S : Sx_} {y : Yc} (hX : XOk X S y) {x : Str} (h : locB S x = true) : L2.Loc X.env.scope x ∧ (X.fn x = true ∨ X.env.scope.names.lookup x = some .local) := by
  unfold locB at h
  unfold L2.Loc
  rw [hX.sc, hX.fb]
  split at h
  · rename_i e; exact ⟨.inl e, .inr e⟩
  · rename_i e; exact ⟨.inr e, .inl h⟩
  · cases h
mutual
def isTg (S : Sx_) : Tg → Expr → Bool
  | .nm i, .Name x _ => decide (S.N[i]? = some x) && locB S x && !decide (S.xs = some i)
  | .tp ts, .Tuple xs _ _ => S.calm && isTgs S ts xs
  | .up ts, .Tuple xs _ _ => S.calm && isTgs S ts xs
  | _, _ => false
def isTgs (S : Sx_) : Tgs → List Expr → Bool
  | .nil, [] => true
  | .cons t ts, x :: xs => isTg S t x && isTgs S ts xs
  | _, _ => false
end
theorem isTg_each {S : Sx_} {t : Tg} {x : Expr} (h : isTg S t x = true) (xs : List Expr) (env : PySem.Env) : assignEach (x :: xs) env = (false, assign x env) :: assignEach xs env := by
  cases t <;> cases x <;> first | rfl | (simp [isTg] at h)
theorem isTgs_each {S : Sx_} : ∀ {ts : Tgs} {xs : List Expr}, isTgs S ts xs = true → ∀ env : PySem.Env, (assignEach xs env).length = xs.length ∧ (assignEach xs env).findIdx? (·.1) = none
  | .nil, [], _, env => ⟨rfl, rfl⟩
  | .cons t ts, x :: xs, h, env => by
    simp only [isTgs, Bool.and_eq_true] at h
    obtain ⟨h1, h2⟩ := isTgs_each h.2 env
    rw [isTg_each h.1]
    refine ⟨by simp [h1], ?_⟩
    rw [List.findIdx?_cons, h2]
    rfl
  | .nil, _ :: _, h, _ => by simp [isTgs] at h
  | .cons _ _, [], h, _ => by simp [isTgs] at h
theorem bindTgs_len {m : M} {S : Sx_} : ∀ {ts : Tgs} {ds : List D} {env env' : Env} {xs : List Expr}, isTgs S ts xs = true → bindTgs m ts ds env = some env' → ds.length = xs.length
  | .nil, [], _, _, [], _, _ => rfl
  | .cons t ts, d :: ds, env, env', x :: xs, h, e => by
    simp only [isTgs, Bool.and_eq_true] at h
    simp only [bindTgs] at e
    obtain ⟨e1, h1, e⟩ := Option.bind_eq_some_iff.mp e
    simp [bindTgs_len h.2 e]
  | .nil, _ :: _, _, _, _, _, e => by simp [bindTgs] at e
  | .cons _ _, [], _, _, _, _, e => by simp [bindTgs] at e
  | .nil, [], _, _, _ :: _, h, _ => by simp [isTgs] at h
  | .cons _ _, _ :: _, _, _, [], h, _ => by simp [isTgs] at h
mutual
theorem okTg {X : Cx} {S : Sx_} {y : Yc} (hX : XOk X S y) : ∀ (t : Tg) (x : Expr), isTg S t x = true → PG X x (gT X.K y t)
  | .nm i, .Name x _, h => by
    simp only [isTg, Bool.and_eq_true, Bool.not_eq_true', decide_eq_true_eq, decide_eq_false_iff_not] at h
    obtain ⟨⟨h0, h⟩, hxs⟩ := h
    obtain ⟨h1, h2⟩ := locB_ok hX h
    exact pg_imp (pg_name (i := i) hX.nd (by rw [hX.n]; exact h0) h1 h2) fun v σ H Q ⟨Z, ph, env, m, d, env', re, wd, r, e, q⟩ => by
      simp only [bindTg] at e
      cases e
      refine q _ (re.set r i (hX.off hxs)) fun l hl => ?_
      simp only [tgIn, decide_eq_true_eq] at hl
      exact wipe_set hl
  | .tp ts, .Tuple xs _ _, h => by
    simp only [isTg, Bool.and_eq_true] at h
    obtain ⟨hcm, h⟩ := h
    obtain ⟨h1, h2⟩ := isTgs_each h X.env
    exact pg_imp (pg_tup (n := xs.length) (hX.calm hcm) (okTgs hX ts xs h) h1 h2) fun v σ H Q ⟨Z, ph, env, m, d, env', re, wd, r, e, q⟩ => by
      cases d <;> simp only [bindTg] at e <;> try cases e
      cases r with
      | tup h3 r => exact ⟨_, _, rfl, h3, by rw [r.len]; exact bindTgs_len h e, Z, ph, env, m, _, env', re, wd, r, e, fun σ' r' hw => q σ' r' fun l hl => hw l (by simpa [tgIn] using hl)⟩
  | .up ts, .Tuple xs _ _, h => by
    simp only [isTg, Bool.and_eq_true] at h
    obtain ⟨hcm, h⟩ := h
    obtain ⟨h1, h2⟩ := isTgs_each h X.env
    exact pg_imp (pg_unl (n := xs.length) (hX.calm hcm) (okTgs hX ts xs h) h1 h2) fun v σ H Q ⟨Z, ph, env, m, d, env', re, wd, r, e, q⟩ => by
      simp only [bindTg] at e
      split at e
      · rename_i ds hd
        obtain ⟨a, vs, rfl, h3, r⟩ := rd_lst wd r hd
        exact ⟨_, _, rfl, SqL.of h3, by rw [r.len]; exact bindTgs_len h e, Z, ph, env, m, _, env', re, wd, r, e, fun σ' r' hw => q σ' r' fun l hl => hw l (by simpa [tgIn] using hl)⟩
      · cases e
  | .nm _, .BoolOp .., h | .nm _, .NamedExpr .., h | .nm _, .BinOp .., h | .nm _, .UnaryOp .., h | .nm _, .Lambda .., h | .nm _, .IfExp .., h | .nm _, .Dict .., h | .nm _, .Set .., h | .nm _, .ListComp .., h | .nm _, .SetComp .., h | .nm _, .DictComp .., h | .nm _, .GeneratorExp .., h
  | .nm _, .Await .., h | .nm _, .Yield .., h | .nm _, .YieldFrom .., h | .nm _, .Compare .., h | .nm _, .Call .., h | .nm _, .FormattedValue .., h | .nm _, .JoinedStr .., h | .nm _, .Constant .., h | .nm _, .Attribute .., h | .nm _, .Subscript .., h | .nm _, .Starred .., h | .nm _, .List .., h | .nm _, .Tuple .., h | .nm _, .Slice .., h => by simp [isTg] at h
  | .tp _, .BoolOp .., h | .tp _, .NamedExpr .., h | .tp _, .BinOp .., h | .tp _, .UnaryOp .., h | .tp _, .Lambda .., h | .tp _, .IfExp .., h | .tp _, .Dict .., h | .tp _, .Set .., h | .tp _, .ListComp .., h | .tp _, .SetComp .., h | .tp _, .DictComp .., h | .tp _, .GeneratorExp .., h
  | .tp _, .Await .., h | .tp _, .Yield .., h | .tp _, .YieldFrom .., h | .tp _, .Compare .., h | .tp _, .Call .., h | .tp _, .FormattedValue .., h | .tp _, .JoinedStr .., h | .tp _, .Constant .., h | .tp _, .Attribute .., h | .tp _, .Subscript .., h | .tp _, .Starred .., h | .tp _, .List .., h | .tp _, .Name .., h | .tp _, .Slice .., h => by simp [isTg] at h
  | .up _, .BoolOp .., h | .up _, .NamedExpr .., h | .up _, .BinOp .., h | .up _, .UnaryOp .., h | .up _, .Lambda .., h | .up _, .IfExp .., h | .up _, .Dict .., h | .up _, .Set .., h | .up _, .ListComp .., h | .up _, .SetComp .., h | .up _, .DictComp .., h | .up _, .GeneratorExp .., h
  | .up _, .Await .., h | .up _, .Yield .., h | .up _, .YieldFrom .., h | .up _, .Compare .., h | .up _, .Call .., h | .up _, .FormattedValue .., h | .up _, .JoinedStr .., h | .up _, .Constant .., h | .up _, .Attribute .., h | .up _, .Subscript .., h | .up _, .Starred .., h | .up _, .List .., h | .up _, .Name .., h | .up _, .Slice .., h => by simp [isTg] at h
theorem okTgs {X : Cx} {S : Sx_} {y : Yc} (hX : XOk X S y) : ∀ (ts : Tgs) (xs : List Expr), isTgs S ts xs = true → PGs X xs (gTs X.K y ts)
  | .nil, [], h => pgs_imp pgs_nil fun v σ H Q ⟨Z, ph, env, m, d, env', re, wd, r, e, q⟩ => by
    cases d with
    | nil =>
      simp only [bindTgs] at e
      cases e
      cases r
      exact ⟨rfl, q σ re fun _ _ => rfl⟩
    | cons a b => simp [bindTgs] at e
  | .cons t ts, x :: xs, h => by
    simp only [isTgs, Bool.and_eq_true] at h
    refine pgs_imp (pgs_cons (okTg hX t x h.1) (okTgs hX ts xs h.2) (by rw [isTg_each h.1]; rfl)) fun v σ H Q ⟨Z, ph, env, m, d, env', re, wd, r, e, q⟩ => ?_
    cases d with
    | nil => simp [bindTgs] at e
    | cons a b =>
      simp only [bindTgs] at e
      obtain ⟨e1, h1, e⟩ := Option.bind_eq_some_iff.mp e
      cases r with
      | cons r0 r => exact ⟨_, _, rfl, Z, ph, env, m, a, e1, re, wd, r0, h1, fun σ1 re1 w1 => ⟨Z, ph, e1, m, b, env', re1, wd, r, e, fun σ2 re2 w2 => q σ2 re2 fun l hl => by
          simp only [tgsIn, Bool.and_eq_true] at hl
          rw [w2 l hl.2, w1 l hl.1]⟩⟩
  | .nil, _ :: _, h => by simp [isTgs] at h
  | .cons _ _, [], h => by simp [isTgs] at h
end

/-! ## what is walked -/
structure Ydl (K : PySem.W.Frag) (Z : Addr → Prop) (ph : List Addr) (H0 : Hp) (J : L2.It) (ds : List D) : Prop where
  go : ∀ i ph' H', i < ds.length → Sx ph H0 ph' H' → J.go i H'
  stop : ∀ ph' H', Sx ph H0 ph' H' → J.stop ds.length H'
  yld : ∀ (Z' : Addr → Prop) i ph' H' x H2, (∀ a, Z' a → Z a ∨ H0 a = none) → i < ds.length → Sx ph H0 ph' H' → J.yld i H' x H2 →
    (H2 = H' ∨ ∃ T o, H' T = none ∧ H2 = upd H' T (.tup o)) ∧ ∃ d, ds[i]? = some d ∧ RepV K Z' ph' H2 x d
def tEvI (K : PySem.W.Frag) (y : Yc) (r : RA) : TI := fun σ H R => ∃ Z ph env m, RepE K y Z ph H σ env ∧ Wd K Z ph m H ∧ FinG K y Z ph H σ (r env m) fun ds _ ph' H' => ∀ J, Ydl K Z ph' H' J ds → R J H'
theorem pi_imp {X : Cx} {tg x : Expr} {t t' : TI} (h : PI X tg x t) (i : ∀ σ H Q, t' σ H Q → t σ H Q) : PI X tg x t' := ⟨fun pins s σ H R I w => h.run pins s σ H R I (i σ H R w)⟩
section
variable {K : PySem.W.Frag} {Z Z' : Addr → Prop} {ph ph' : List Addr} {H H' : Hp}
mutual
theorem RepV.zmono (hz : ∀ a, Z' a → Z a ∨ H a = none) : ∀ {v d}, RepV K Z ph H v d → RepV K Z' ph H v d
  | _, _, .non => .non
  | _, _, .bl b => .bl b
  | _, _, .int i => .int i
  | _, _, .str x => .str x
  | _, _, .tup h r => .tup h (RepVs.zmono hz r)
  | _, _, .lst h n z r => .lst h n (fun q => (hz _ q).elim z fun e => by rw [h] at e; cases e) (RepVs.zmono hz r)
  | _, _, .frz h r => .frz h (RepVs.zmono hz r)
  | _, _, .ref h k => .ref h k
  | _, _, .obj h k => .obj h k
  | _, _, .dic h k => .dic h k
  | _, _, .gl h => .gl h
theorem RepVs.zmono (hz : ∀ a, Z' a → Z a ∨ H a = none) : ∀ {vs ds}, RepVs K Z ph H vs ds → RepVs K Z' ph H vs ds
  | _, _, .nil => .nil
  | _, _, .cons h r => .cons (RepV.zmono hz h) (RepVs.zmono hz r)
end
theorem ydl_tup {a : Addr} {vs : List V} {ds : List D} (h : SqT K H a vs) (r : RepVs K Z ph H vs ds) : Ydl K Z ph H (Itt K a) ds := by
  refine ⟨fun i ph' H' hi s => ?_, fun ph' H' s => ⟨vs, s.sqT h, by rw [r.len]; exact Nat.le_refl _⟩, fun Z' i ph' H' x H2 hz hi s hy => ?_⟩
  · obtain ⟨v, hv, _⟩ := r.get (List.getElem?_eq_getElem hi)
    exact ⟨vs, v, s.sqT h, hv⟩
  · obtain ⟨rfl, hy⟩ := hy
    obtain ⟨d, h1, r1⟩ := r.get' (hy vs (s.sqT h))
    exact ⟨.inl rfl, d, h1, (r1.zmono hz).mono s⟩
theorem ydl_lst {a : Addr} {vs : List V} {ds : List D} (h : H a = some (.lst vs)) (n : a ∉ ph) (r : RepVs K Z ph H vs ds) : Ydl K Z ph H (Itl K a) ds := by
  refine ⟨fun i ph' H' hi s => ?_, fun ph' H' s => ⟨vs, SqL.of (s.fr _ _ h n .lst), by rw [r.len]; exact Nat.le_refl _⟩, fun Z' i ph' H' x H2 hz hi s hy => ?_⟩
  · obtain ⟨v, hv, _⟩ := r.get (List.getElem?_eq_getElem hi)
    exact ⟨vs, v, SqL.of (s.fr _ _ h n .lst), hv⟩
  · obtain ⟨rfl, hy⟩ := hy
    obtain ⟨d, h1, r1⟩ := r.get' (hy vs (SqL.of (s.fr _ _ h n .lst)))
    exact ⟨.inl rfl, d, h1, (r1.zmono hz).mono s⟩
theorem ydl_rng (lo : Int) (n : Nat) : Ydl K Z ph H (Itr lo n) (rangeD lo n) := by
  have hl : (rangeD lo n).length = n := by simp [rangeD]
  refine ⟨fun i ph' H' hi s => by rw [hl] at hi; exact hi, fun ph' H' s => by rw [hl]; exact Nat.le_refl _, fun Z' i ph' H' x H2 hz hi s hy => ?_⟩
  obtain ⟨rfl, rfl⟩ := hy
  rw [hl] at hi
  refine ⟨.inl rfl, .int (lo + i), ?_, .int _⟩
  simp [rangeD, hi]
theorem ydl_zipT {a b : Addr} {vs ws : List V} {ds es : List D} (h : SqT K H a vs) (r : RepVs K Z ph H vs ds) (h' : SqT K H b ws) (r' : RepVs K Z ph H ws es) : Ydl K Z ph H (RZ.ItzT K a b) (List.zipWith (fun a b => .tup [a, b]) ds es) := by
  have hl : (List.zipWith (fun a b => D.tup [a, b]) ds es).length = min ds.length es.length := List.length_zipWith
  refine ⟨fun i ph' H' hi s => ?_, fun ph' H' s => ⟨vs, ws, s.sqT h, s.sqT h', by rw [r.len, r'.len, hl]; omega⟩, fun Z' i ph' H' x H2 hz hi s hy => ?_⟩
  · rw [hl] at hi
    obtain ⟨v, hv, _⟩ := r.get (List.getElem?_eq_getElem (by omega : i < ds.length))
    obtain ⟨w, hw, _⟩ := r'.get (List.getElem?_eq_getElem (by omega : i < es.length))
    exact ⟨vs, ws, v, w, s.sqT h, s.sqT h', hv, hw⟩
  · obtain ⟨T, v, w, rfl, hT, rfl, h1, h2⟩ := hy
    obtain ⟨d, e1, q1⟩ := r.get' (h1 vs (s.sqT h))
    obtain ⟨e, e2, q2⟩ := r'.get' (h2 ws (s.sqT h'))
    have s2 : Sx ph' H' ph' (upd H' T (.tup [v, w])) := Sx.upd hT
    exact ⟨.inr ⟨T, _, hT, rfl⟩, .tup [d, e], by rw [List.getElem?_zipWith, e1, e2], .tup (SqT.of upd_same) (.cons (((q1.zmono hz).mono s).mono s2) (.cons (((q2.zmono hz).mono s).mono s2) .nil))⟩
theorem ydl_zipL {a b : Addr} {vs ws : List V} {ds es : List D} (h : H a = some (.lst vs)) (n : a ∉ ph) (r : RepVs K Z ph H vs ds) (h' : H b = some (.lst ws)) (n' : b ∉ ph) (r' : RepVs K Z ph H ws es) : Ydl K Z ph H (Itz K a b) (List.zipWith (fun a b => .tup [a, b]) ds es) := by
  have hl : (List.zipWith (fun a b => D.tup [a, b]) ds es).length = min ds.length es.length := List.length_zipWith
  have g : ∀ {ph' H'}, Sx ph H ph' H' → SqL K H' a vs := fun s => SqL.of (s.fr _ _ h n .lst)
  have g' : ∀ {ph' H'}, Sx ph H ph' H' → SqL K H' b ws := fun s => SqL.of (s.fr _ _ h' n' .lst)
  refine ⟨fun i ph' H' hi s => ?_, fun ph' H' s => ⟨vs, ws, g s, g' s, by rw [r.len, r'.len, hl]; omega⟩, fun Z' i ph' H' x H2 hz hi s hy => ?_⟩
  · rw [hl] at hi
    obtain ⟨v, hv, _⟩ := r.get (List.getElem?_eq_getElem (by omega : i < ds.length))
    obtain ⟨w, hw, _⟩ := r'.get (List.getElem?_eq_getElem (by omega : i < es.length))
    exact ⟨vs, ws, v, w, g s, g' s, hv, hw⟩
  · obtain ⟨T, v, w, rfl, hT, rfl, h1, h2⟩ := hy
    obtain ⟨d, e1, q1⟩ := r.get' (h1 vs (g s))
    obtain ⟨e, e2, q2⟩ := r'.get' (h2 ws (g' s))
    have s2 : Sx ph' H' ph' (upd H' T (.tup [v, w])) := Sx.upd hT
    exact ⟨.inr ⟨T, _, hT, rfl⟩, .tup [d, e], by rw [List.getElem?_zipWith, e1, e2], .tup (SqT.of upd_same) (.cons (((q1.zmono hz).mono s).mono s2) (.cons (((q2.zmono hz).mono s).mono s2) .nil))⟩
end
section
variable {X : Cx} {y_ : Yc} {x y tg : Expr} {pos p : Pos} {ra rb : RE}
theorem pi_or {t t' : TI} (h : PI X tg x t) (h' : PI X tg x t') : PI X tg x (fun σ H R => t σ H R ∨ t' σ H R) := ⟨fun pins s σ H R I w => w.elim (h.run pins s σ H R I) (h'.run pins s σ H R I)⟩
theorem ev_eq {α : Type} {K : PySem.W.Frag} {Z : Addr → Prop} {ph : List Addr} {H : Hp} {σ : L2.St} {env : Env} {m m1 : M} {r : RE} {d : D} {R : VK} {f : D → M → Rz α} {P : α → M → List Addr → Hp → Prop} (e : r env m = .ok d m1) (re : RepE K y_ Z ph H σ env) (wd : Wd K Z ph m H) (q : FinG K y_ Z ph H σ ((r env m).bind f) P)
    (k : ∀ ph1 H1 v, Sx ph H ph1 H1 → Wd K Z ph1 m1 H1 → RepE K y_ Z ph1 H1 σ env → RepV K Z ph1 H1 v d → FinG K y_ Z ph1 H1 σ (f d m1) P → R v H1) : tEv K y_ r σ H R := by
  refine ⟨Z, ph, env, m, re, wd, ?_⟩
  rw [e] at q ⊢
  exact fun ph1 H1 s1 w1 v rv => k ph1 H1 v s1 w1 (re.mono s1) rv (FinG.after (show FinG K y_ Z ph H σ (f d m1) P from q) s1)
theorem ev_ex {α : Type} {K : PySem.W.Frag} {Z : Addr → Prop} {ph : List Addr} {H : Hp} {σ : L2.St} {env : Env} {m m1 : M} {r : RE} {x : XV} {R : VK} {f : D → M → Rz α} {P : α → M → List Addr → Hp → Prop} (e : r env m = .ex x m1) (re : RepE K y_ Z ph H σ env) (wd : Wd K Z ph m H) (q : FinG K y_ Z ph H σ ((r env m).bind f) P) : tEv K y_ r σ H R := by
  refine ⟨Z, ph, env, m, re, wd, ?_⟩
  rw [e] at q ⊢
  exact q
theorem fin_no {α : Type} {K : PySem.W.Frag} {Z : Addr → Prop} {ph : List Addr} {H : Hp} {σ : L2.St} {env : Env} {m : M} {r : RE} {f : D → M → Rz α} {P : α → M → List Addr → Hp → Prop} (e : r env m = .no) (q : FinG K y_ Z ph H σ ((r env m).bind f) P) : False := by
  rw [e] at q
  exact q
def rSeq_ (ra : RE) : RA := fun env m => (ra env m).bind fun x m => .of (seqI x) m
theorem FinG.iv {K : PySem.W.Frag} {Z : Addr → Prop} {ph : List Addr} {H : Hp} {σ : L2.St} {m : M} {R : L2.It → Hp → Prop} {o : Option (List D)} (q : FinG K y_ Z ph H σ (Rz.of o m) fun ds _ ph' H' => ∀ J, Ydl K Z ph' H' J ds → R J H') (w : Wd K Z ph m H) : ∃ ds, o = some ds ∧ ∀ J, Ydl K Z ph H J ds → R J H := by
  obtain ⟨ds, e, q⟩ := q.of
  exact ⟨ds, e, fun J yd => q ph H Sx.refl w J yd⟩
theorem i_seq (ha : PE X x (tEv X.K y_ ra)) : PI X tg x (tEvI X.K y_ (rSeq_ ra)) :=
  pi_imp (pi_or (pi_tup ha) (pi_list ha)) fun σ H R ⟨Z, ph, env, m, re, wd, q⟩ => by
    unfold rSeq_ at q
    cases e : ra env m with
    | no => exact (fin_no e q).elim
    | ex x m1 => exact .inl (ev_ex e re wd q)
    | ok d m1 =>
      cases d with
      | tup xs =>
        refine .inl (ev_eq e re wd q fun ph1 H1 v s1 w1 re1 r1 q => ?_)
        obtain ⟨ds, hz, qz⟩ := q.iv w1
        cases hz
        cases r1 with
        | tup h r => exact ⟨_, rfl, ⟨_, h⟩, qz _ (ydl_tup h r)⟩
      | lst xs =>
        refine .inr (ev_eq e re wd q fun ph1 H1 v s1 w1 re1 r1 q => ?_)
        obtain ⟨ds, hz, qz⟩ := q.iv w1
        cases hz
        cases r1 with
        | lst h n z r => exact ⟨_, rfl, ⟨_, SqL.of h⟩, qz _ (ydl_lst h n r)⟩
      | _ =>
        rw [e] at q
        exact q.elim
def rRng1_ (ra : RE) : RA := fun env m => (ra env m).bind fun x m => .of (rng1I x) m
theorem i_rng1 (hg : Gl X "range") (hm : X.mg "range" = none) (ha : PE X x (tEv X.K y_ ra)) (hs : starEach [x] X.env = (false, eval x X.env) :: starEach [] X.env) : PI X tg (.Call (.Name "range" p) [x] [] pos) (tEvI X.K y_ (rRng1_ ra)) :=
  pi_imp (pi_range1 hg hm (pa_cons ha pa_nil hs) hs) fun σ H R ⟨Z, ph, env, m, re, wd, q⟩ => ev_bind re wd q fun d m1 ph1 H1 v s1 w1 re1 r1 q => by
    obtain ⟨ds, hz, qz⟩ := q.iv w1
    cases d <;> simp only [rng1I] at hz <;> try cases hz
    rename_i n
    cases r1
    split at hz
    · rename_i hk
      simp only [rgOk, Bool.and_eq_true, decide_eq_true_eq] at hk
      cases hz
      exact ⟨n, rfl, hk.1, hk.2, qz _ (ydl_rng 0 _)⟩
    · cases hz
def rRng2_ (ra rb : RE) : RA := fun env m => (ra env m).bind fun x m => (rb env m).bind fun y m => .of (rng2I x y) m
theorem i_rng2 (hg : Gl X "range") (hm : X.mg "range" = none) (ha : PE X x (tEv X.K y_ ra)) (hb : PE X y (tEv X.K y_ rb)) (hs : starEach [x, y] X.env = (false, eval x X.env) :: starEach [y] X.env) (hs2 : starEach [y] X.env = (false, eval y X.env) :: starEach [] X.env) : PI X tg (.Call (.Name "range" p) [x, y] [] pos) (tEvI X.K y_ (rRng2_ ra rb)) :=
  pi_imp (pi_range2 hg hm (pa_cons ha (pa_cons hb pa_nil hs2) hs) (by rw [hs, hs2]; rfl) hs2) fun σ H R ⟨Z, ph, env, m, re, wd, q⟩ => ev_bind re wd q fun d m1 ph1 H1 v s1 w1 re1 r1 q => ev_bind re1 w1 q fun d2 m2 ph2 H2 w s2 w2 re2 r2 q => by
    obtain ⟨ds, hz, qz⟩ := q.iv w2
    cases d <;> cases d2 <;> simp only [rng2I] at hz <;> try cases hz
    cases r1
    cases r2
    split at hz
    · rename_i hk
      simp only [rgOk, Bool.and_eq_true, decide_eq_true_eq] at hk
      cases hz
      exact ⟨_, _, rfl, ⟨hk.1.1, hk.1.2, hk.2.1, hk.2.2⟩, qz _ (ydl_rng _ _)⟩
    · cases hz
def rZip_ (ra rb : RE) : RA := fun env m => (ra env m).bind fun x m => (rb env m).bind fun y m => .of (zipD x y) m
def rZipS_ (ra rb : RE) : RA := fun env m => (ra env m).bind fun x m => (rb env m).bind fun y m => .of (zipSD x y) m
theorem row_sg {K : PySem.W.Frag} {Z : Addr → Prop} {ph : List Addr} {H : Hp} {v : V} {d : D} {b : Bool} {xs : List D} (r : RepV K Z ph H v d) (e : rowD d = some (b, xs)) :
    ∃ a vs, v = .ref a ∧ RepVs K Z ph H vs xs ∧ ∀ ph' H', Sx ph H ph' H' → SqG b K H' a vs := by
  cases r with
  | tup h r => cases e; exact ⟨_, _, rfl, r, fun ph' H' s => s.sqT h⟩
  | lst h n z r => cases e; exact ⟨_, _, rfl, r, fun ph' H' s => SqL.of (s.fr _ _ h n .lst)⟩
  | non => cases e
  | bl => cases e
  | int => cases e
  | str => cases e
  | frz => cases e
  | ref => cases e
  | obj => cases e
  | dic => cases e
  | gl => cases e
theorem ydl_zipG {K : PySem.W.Frag} {Z : Addr → Prop} {ph : List Addr} {H : Hp} {a c : Addr} {b1 b2 : Bool} {vs ws : List V} {ds es : List D} (g : ∀ ph' H', Sx ph H ph' H' → SqG b1 K H' a vs) (r : RepVs K Z ph H vs ds) (g' : ∀ ph' H', Sx ph H ph' H' → SqG b2 K H' c ws) (r' : RepVs K Z ph H ws es) (e : ds.length = es.length) : Ydl K Z ph H (ItG b1 b2 K a c) (List.zipWith (fun a b => .tup [a, b]) ds es) := by
  have hl : (List.zipWith (fun a b => D.tup [a, b]) ds es).length = min ds.length es.length := List.length_zipWith
  refine ⟨fun i ph' H' hi s => ?_, fun ph' H' s => ⟨vs, ws, g _ _ s, g' _ _ s, by rw [r.len, hl]; omega, by rw [r'.len, hl]; omega⟩, fun Z' i ph' H' x H2 hz hi s hy => ?_⟩
  · rw [hl] at hi
    obtain ⟨v, hv, _⟩ := r.get (List.getElem?_eq_getElem (by omega : i < ds.length))
    obtain ⟨w, hw, _⟩ := r'.get (List.getElem?_eq_getElem (by omega : i < es.length))
    exact ⟨vs, ws, v, w, g _ _ s, g' _ _ s, hv, hw⟩
  · obtain ⟨T, v, w, rfl, hT, rfl, h1, h2⟩ := hy
    obtain ⟨d, e1, q1⟩ := r.get' (h1 vs (g _ _ s))
    obtain ⟨e, e2, q2⟩ := r'.get' (h2 ws (g' _ _ s))
    have s2 : Sx ph' H' ph' (upd H' T (.tup [v, w])) := Sx.upd hT
    exact ⟨.inr ⟨T, _, hT, rfl⟩, .tup [d, e], by rw [List.getElem?_zipWith, e1, e2], .tup (SqT.of upd_same) (.cons (((q1.zmono hz).mono s).mono s2) (.cons (((q2.zmono hz).mono s).mono s2) .nil))⟩
theorem zipS_run {σ : L2.St} {H : Hp} {R : L2.It → Hp → Prop} (h : tEvI X.K y_ (rZipS_ ra rb) σ H R) : iZipG X.K (tCons (tEv X.K y_ ra) (tCons (tEv X.K y_ rb) tNil)) σ H R := by
  obtain ⟨Z, ph, env, m, re, wd, q⟩ := h
  refine ev_bind re wd q fun d m1 ph1 H1 v s1 w1 re1 r1 q => ev_bind re1 w1 q fun d2 m2 ph2 H2 w s2 w2 re2 r2 q => ?_
  have r1 := r1.mono s2
  obtain ⟨ds, h3, qz⟩ := q.iv w2
  obtain ⟨⟨b1, xs⟩, g1, h3⟩ := Option.bind_eq_some_iff.mp h3
  obtain ⟨⟨b2, ys⟩, g2, h3⟩ := Option.bind_eq_some_iff.mp h3
  split at h3
  · rename_i el
    cases h3
    obtain ⟨a, vs, rfl, q1, k1⟩ := row_sg r1 g1
    obtain ⟨c, ws, rfl, q2, k2⟩ := row_sg r2 g2
    exact ⟨b1, b2, a, c, vs, ws, rfl, k1 _ _ Sx.refl, k2 _ _ Sx.refl, qz _ (ydl_zipG k1 q1 k2 q2 el)⟩
  · cases h3
theorem zipD_cases {x y : D} {ds : List D} (h : zipD x y = some ds) : (∃ xs ys, x = .tup xs ∧ y = .tup ys) ∨ (∃ xs ys, x = .lst xs ∧ y = .lst ys) ∨ zipSD x y = some ds := by
  unfold zipD at h
  split at h
  · exact .inl ⟨_, _, rfl, rfl⟩
  · exact .inr (.inl ⟨_, _, rfl, rfl⟩)
  · exact .inr (.inr h)
  · exact .inr (.inr h)
  · cases h
theorem i_zip {elts : List Expr} {kk : Nat} {tpos : Pos} (hg : Gl X "zip") (hm : X.mg "zip" = none) (ha : PE X x (tEv X.K y_ ra)) (hb : PE X y (tEv X.K y_ rb)) (hs : starEach [x, y] X.env = (false, eval x X.env) :: starEach [y] X.env) (hs2 : starEach [y] X.env = (false, eval y X.env) :: starEach [] X.env) :
    PI X (.Tuple elts kk tpos) (.Call (.Name "zip" p) [x, y] [] pos) (tEvI X.K y_ (rZip_ ra rb)) :=
  pi_imp (pi_or (RZ.pi_zipA hg hm (pa_cons ha (pa_cons hb pa_nil hs2) hs) hs (by rw [hs2]; rfl)) (pi_zipG hg hm (pa_cons ha (pa_cons hb pa_nil hs2) hs) hs (by rw [hs2]; rfl))) fun σ H R ⟨Z, ph, env, m, re, wd, q⟩ => by
    unfold rZip_ at q
    cases e : ra env m with
    | no => exact (fin_no e q).elim
    | ex x m1 => exact .inl (ev_ex e re wd q)
    | ok d m1 =>
      have q0 := q
      rw [e] at q0
      have q0 : FinG X.K y_ Z ph H σ ((rb env m1).bind fun y m => .of (zipD d y) m) (fun ds _ ph' H' => ∀ J, Ydl X.K Z ph' H' J ds → R J H') := q0
      cases e2 : rb env m1 with
      | no => exact (fin_no e2 q0).elim
      | ex x m2 => exact .inl (ev_eq e re wd q fun ph1 H1 v s1 w1 re1 r1 q => ev_ex e2 re1 w1 q)
      | ok d2 m2 =>
        rw [e2] at q0
        have q0 : FinG X.K y_ Z ph H σ (.of (zipD d d2) m2) (fun ds _ ph' H' => ∀ J, Ydl X.K Z ph' H' J ds → R J H') := q0
        obtain ⟨ds, hz, _⟩ := q0.of
        rcases zipD_cases hz with ⟨xs, ys, rfl, rfl⟩ | ⟨xs, ys, rfl, rfl⟩ | hs'
        · refine .inl (ev_eq e re wd q fun ph1 H1 v s1 w1 re1 r1 q => ev_eq e2 re1 w1 q fun ph2 H2 w s2 w2 re2 r2 q => ?_)
          obtain ⟨ds, hz, qz⟩ := q.iv w2
          cases hz
          cases r1.mono s2 with
          | tup g1 r1 =>
            cases r2 with
            | tup g2 r2 => exact ⟨_, _, _, _, rfl, .inr ⟨g1, g2, qz _ (ydl_zipT g1 r1 g2 r2)⟩⟩
        · refine .inl (ev_eq e re wd q fun ph1 H1 v s1 w1 re1 r1 q => ev_eq e2 re1 w1 q fun ph2 H2 w s2 w2 re2 r2 q => ?_)
          obtain ⟨ds, hz, qz⟩ := q.iv w2
          cases hz
          cases r1.mono s2 with
          | lst g1 n1 z1 r1 =>
            cases r2 with
            | lst g2 n2 z2 r2 => exact ⟨_, _, _, _, rfl, .inl ⟨SqL.of g1, SqL.of g2, qz _ (ydl_zipL g1 n1 r1 g2 n2 r2)⟩⟩
        · refine .inr (zipS_run ⟨Z, ph, env, m, re, wd, ?_⟩)
          unfold rZipS_
          rw [e]
          show FinG X.K y_ Z ph H σ ((rb env m1).bind fun y m => .of (zipSD d y) m) _
          rw [e2]
          show FinG X.K y_ Z ph H σ (.of (zipSD d d2) m2) _
          rw [hs', ← hz]
          exact q0
theorem i_zipS {elts : List Expr} {kk kn : Nat} {tpos vpos kpos : Pos} (hg : Gl X "zip") (hm : X.mg "zip" = none) (ha : PE X x (tEv X.K y_ ra)) (hb : PE X y (tEv X.K y_ rb)) (hs : starEach [x, y] X.env = (false, eval x X.env) :: starEach [y] X.env) (hs2 : starEach [y] X.env = (false, eval y X.env) :: starEach [] X.env) :
    PI X (.Tuple elts kk tpos) (.Call (.Name "zip" p) [x, y] [⟨some "strict", .Constant (.bool true) kn vpos, kpos⟩] pos) (tEvI X.K y_ (rZipS_ ra rb)) :=
  pi_imp (pi_zipS hg hm (pa_cons ha (pa_cons hb pa_nil hs2) hs) hs (by rw [hs, hs2]; rfl)) fun _ _ _ h => zipS_run h
end
end Pv

namespace Pv
open PySem L2
variable [TabT]
/-! ## enumerate, read -/
theorem enumD_len {ds : List D} : (enumD ds).length = ds.length := by simp [enumD, rangeD]
theorem enumD_get {ds : List D} {i : Nat} {d : D} (h : ds[i]? = some d) : (enumD ds)[i]? = some (.tup [.int (i : Nat), d]) := by
  have hi := (List.getElem?_eq_some_iff.mp h).1
  have e : (rangeD 0 ds.length)[i]? = some (.int (i : Int)) := by simp [rangeD, hi]
  unfold enumD
  rw [List.getElem?_zipWith, e, h]
theorem ydl_enum {K : PySem.W.Frag} {Z : Addr → Prop} {ph : List Addr} {H : Hp} {a : Addr} {b : Bool} {vs : List V} {ds : List D} (g : ∀ ph' H', Sx ph H ph' H' → SqG b K H' a vs) (r : RepVs K Z ph H vs ds) : Ydl K Z ph H (IteG b K a) (enumD ds) := by
  refine ⟨fun i ph' H' hi s => ?_, fun ph' H' s => ⟨vs, g _ _ s, by rw [r.len, enumD_len]; exact Nat.le_refl _⟩, fun Z' i ph' H' x H2 hz hi s hy => ?_⟩
  · rw [enumD_len] at hi
    obtain ⟨v, hv, _⟩ := r.get (List.getElem?_eq_getElem hi)
    exact ⟨vs, v, g _ _ s, hv⟩
  · obtain ⟨T, v, rfl, hT, rfl, h1⟩ := hy
    obtain ⟨d, e1, q1⟩ := r.get' (h1 vs (g _ _ s))
    have s2 : Sx ph' H' ph' (upd H' T (.tup [.int (i : Nat), v])) := Sx.upd hT
    exact ⟨.inr ⟨T, _, hT, rfl⟩, .tup [.int (i : Nat), d], enumD_get e1, .tup (SqT.of upd_same) (.cons (.int _) (.cons (((q1.zmono hz).mono s).mono s2) .nil))⟩
section
variable {X : Cx} {y_ : Yc} {x : Expr} {p pos : Pos} {ra : RE}
def rEnum_ (ra : RE) : RA := fun env m => (ra env m).bind fun x m => .of (enumI x) m
theorem i_enum {elts : List Expr} {kk : Nat} {tpos : Pos} (hg : Gl X "enumerate") (hm : X.mg "enumerate" = none) (ha : PE X x (tEv X.K y_ ra)) (hs : starEach [x] X.env = (false, eval x X.env) :: starEach [] X.env) :
    PI X (.Tuple elts kk tpos) (.Call (.Name "enumerate" p) [x] [] pos) (tEvI X.K y_ (rEnum_ ra)) :=
  pi_imp (pi_enumG hg hm (pa_cons ha pa_nil hs) hs) fun σ H R ⟨Z, ph, env, m, re, wd, q⟩ => by
    refine ev_bind re wd q fun d m1 ph1 H1 v s1 w1 re1 r1 q => ?_
    obtain ⟨ds, h3, qz⟩ := q.iv w1
    have : ∃ b xs, rowD d = some (b, xs) ∧ ds = enumD xs := by
      unfold enumI at h3
      split at h3
      · split at h3
        · cases h3; exact ⟨_, _, rfl, rfl⟩
        · cases h3
      · split at h3
        · cases h3; exact ⟨_, _, rfl, rfl⟩
        · cases h3
      · cases h3
    obtain ⟨b, xs, g1, rfl⟩ := this
    obtain ⟨a, vs, rfl, q1, k1⟩ := row_sg r1 g1
    exact ⟨b, a, vs, rfl, k1 _ _ Sx.refl, qz _ (ydl_enum k1 q1)⟩
end
end Pv

namespace Pv
open PySem L2
variable [TabT]
section
variable {K : PySem.W.Frag} {Z : Addr → Prop} {ph ph' : List Addr} {H H' : Hp} {m : M} {p : Addr} {us us' : List V}
theorem SqT.upd {a : Addr} {vs : List V} (h : H p = some (.lst us)) (q : SqT K H a vs) : SqT K (L2.upd H p (.lst us')) a vs := by
  rcases q with (q | ⟨o, q⟩) | q
  · exact .inl (.inl (by rw [upd_ne (ne_of q h (by intro e; cases e))]; exact q))
  · exact .inl (.inr ⟨o, by rw [upd_ne (ne_of q h (by intro e; cases e))]; exact q⟩)
  · exact .inr q
theorem FrzL.upd {a : Addr} {vs : List V} (h : H p = some (.lst us)) (q : FrzL K H a vs) : FrzL K (L2.upd H p (.lst us')) a vs := by
  rcases q with ⟨o, q⟩ | q
  · exact .inl ⟨o, by rw [upd_ne (ne_of q h (by intro e; cases e))]; exact q⟩
  · exact .inr q
mutual
theorem RepV.updZ (hz : Z p) (h : H p = some (.lst us)) : ∀ {v d}, RepV K Z ph H v d → RepV K Z ph (L2.upd H p (.lst us')) v d
  | _, _, .non => .non
  | _, _, .bl b => .bl b
  | _, _, .int i => .int i
  | _, _, .str x => .str x
  | _, _, .tup q r => .tup (SqT.upd h q) (RepVs.updZ hz h r)
  | _, _, .lst (a := a) q n z r => .lst (by rw [upd_ne (fun (e : a = p) => z (by rw [e]; exact hz))]; exact q) n z (RepVs.updZ hz h r)
  | _, _, .frz q r => .frz (FrzL.upd h q) (RepVs.updZ hz h r)
  | _, _, .ref q k => .ref q (by
    obtain ⟨vs, e⟩ := k
    rename_i a l
    by_cases ea : a = p
    · exact ⟨us', by rw [ea, upd_same]⟩
    · exact ⟨vs, by rw [upd_ne ea]; exact e⟩)
  | _, _, .obj q k => .obj q (by
    obtain ⟨C, dx, fs, e⟩ := k
    exact ⟨C, dx, fs, by rw [upd_ne (ne_of e h (by intro e; cases e))]; exact e⟩)
  | _, _, .dic q k => .dic q (by
    obtain ⟨vs, e⟩ := k
    exact ⟨vs, by rw [upd_ne (ne_of e h (by intro e; cases e))]; exact e⟩)
  | _, _, .gl q => .gl q
theorem RepVs.updZ (hz : Z p) (h : H p = some (.lst us)) : ∀ {vs ds}, RepVs K Z ph H vs ds → RepVs K Z ph (L2.upd H p (.lst us')) vs ds
  | _, _, .nil => .nil
  | _, _, .cons q r => .cons (RepV.updZ hz h q) (RepVs.updZ hz h r)
end
theorem Wd.updZ (w : Wd K Z ph m H) (hz : Z p) (n : p ∉ ph) (h : H p = some (.lst us)) : Wd K Z ph m (L2.upd H p (.lst us')) := by
  have ne : ∀ {l : Nat} {a : Addr}, ph[l]? = some a → a ≠ p := fun e1 e => n (by rw [← e]; exact List.mem_of_getElem? e1)
  refine Wd.of_mo (fun p' hp' => tabS_upd h (fun _ e => by cases e) (fun f => f.l _ rfl) (w.tb p' hp')) w.len w.nd (fun a ha => ?_) fun l u e => ?_
  · by_cases e : a = p
    · subst e; exact ⟨_, upd_same⟩
    · obtain ⟨o, q⟩ := w.zin a ha
      exact ⟨o, by rw [upd_ne e]; exact q⟩
  · obtain ⟨a, o, e1, e2, r⟩ := w.mo e
    refine ⟨a, o, e1, by rw [upd_ne (ne e1)]; exact e2, ?_⟩
    cases u with
    | lst xs => obtain ⟨vs, e, r⟩ := r; exact ⟨vs, e, r.updZ hz h⟩
    | ins nm fs => obtain ⟨C, dx, fvs, e0, e, r⟩ := r; exact ⟨C, dx, fvs, e0, e, ⟨r.nm, r.vs.updZ hz h⟩⟩
    | dct kvs => obtain ⟨vvs, e, r⟩ := r; exact ⟨vvs, e, ⟨r.ks, r.vs.updZ hz h⟩⟩
theorem Sx.updNew {ph0 : List Addr} {H0 : Hp} {o o' : HO} (s : Sx ph0 H0 ph H) (h : H0 p = none) (h' : H p = some o') (nt : ∀ ps, o' ≠ .tbl ps) (nf : Fix o' → False) : Sx ph0 H0 ph (L2.upd H p o) := by
  have k : ∀ a u, H0 a = some u → a ≠ p := fun a u e => ne_of_none e h
  refine ⟨s.ext, s.new, fun a u e n nt => by rw [upd_ne (k a u e)]; exact s.fr a u e n nt, fun a u e n => by rw [upd_ne (k a u e)]; exact s.ft a u e n, fun a u e => ?_, fun a u e => ?_, fun a C dx u e => ?_, fun a u e => ?_, fun t p hp => tabS_upd h' nt nf (s.tb t p hp)⟩
  · rw [upd_ne (k a _ e)]; exact s.old a u e
  · rw [upd_ne (k a _ e)]; exact s.kl a u e
  · rw [upd_ne (k a _ e)]; exact s.ki a C dx u e
  · rw [upd_ne (k a _ e)]; exact s.kd a u e
theorem Sx.grow {x : V} {H2 : Hp} (h : H2 = H ∨ ∃ T o, H T = none ∧ H2 = L2.upd H T (.tup o)) : Sx ph H ph H2 := by
  rcases h with rfl | ⟨T, o, h, rfl⟩
  · exact Sx.refl
  · exact Sx.upd h
theorem Wd.grow {H2 : Hp} (w : Wd K Z ph m H) (h : H2 = H ∨ ∃ T o, H T = none ∧ H2 = L2.upd H T (.tup o)) : Wd K Z ph m H2 := by
  rcases h with rfl | ⟨T, o, h, rfl⟩
  · exact w
  · exact w.new h
end

section
variable {X : Cx} {x it tg c : Expr} {scope : Scope} {pos : Pos} {ri : RA} {rx rc : RE} {own : List (Str × Nat)} {t : Tg} {y_ : Yc}
/-- no wish: nothing leaves a comprehension's block -/
def yN : Yc := ⟨fun _ _ _ _ => False, none, none⟩
theorem yN_off (i : Nat) : yN.off i := fun j x e => by cases e
def rComp_ (own : List (Str × Nat)) (t : Tg) (ri : RA) (rx : RE) : RE := fun env m => (ri env m).bind fun ds m => if ds.length ≤ lim then (match compL t (wipeE env (own.map (·.2))) rx ds m with
  | some q => .ok (.lst q.1) q.2
  | none => .no) else .no
def rCompI_ (own : List (Str × Nat)) (t : Tg) (ri : RA) (rc rx : RE) : RE := fun env m => (ri env m).bind fun ds m => if ds.length ≤ lim then (match compLI t (wipeE env (own.map (·.2))) rc rx ds m with
  | some q => .ok (.lst q.1) q.2
  | none => .no) else .no
/-- where a comprehension stands behind i items -/
structure CAt (K : PySem.W.Frag) (Z : Addr → Prop) (ph1 : List Addr) (H1 : Hp) (Dl : Addr) (go : List D → M → Option (List D × M)) (items ds : List D) (m' : M) (i : Nat) (H : Hp) : Prop where
  le : i ≤ items.length
  ex : ∃ ph2 m2 accv accd rest, Sx ph1 H1 ph2 H ∧ Wd K (Zp Z Dl) ph2 m2 H ∧ Dl ∉ ph2 ∧ H Dl = some (.lst accv) ∧ RepVs K (Zp Z Dl) ph2 H accv accd ∧ accd.length ≤ i ∧ go (items.drop i) m2 = some (rest, m') ∧ accd ++ rest = ds
theorem comp_run {K : PySem.W.Frag} {σ : L2.St} {H1 : Hp} {Q : VK} {Z : Addr → Prop} {ph1 : List Addr} {env : Env} {m m' : M} {items ds : List D} {J : L2.It} {tt : TT} {te : TE} {g : TG} {vs : List Nat} {Dl : Addr} {go : List D → M → Option (List D × M)}
    (hgo : ∀ m, go [] m = some ([], m))
    (re : RepE K yN Z ph1 H1 σ env) (wd : Wd K Z ph1 m H1) (hD : H1 Dl = none) (yd : Ydl K Z ph1 H1 J items) (e : go items m = some (ds, m')) (hl : items.length ≤ lim)
    (turn : ∀ i d ph2 m2 H2 x rest (N : Hp → Prop), items[i]? = some d → Sx ph1 H1 ph2 H2 → Wd K (Zp Z Dl) ph2 m2 H2 → RepE K yN (Zp Z Dl) ph2 H2 (wipe σ vs) (wipeE env vs) → RepV K (Zp Z Dl) ph2 H2 x d → go (d :: items.drop (i + 1)) m2 = some (rest, m') →
      (∀ ph4 m4 H4 v y rest', Sx ph2 H2 ph4 H4 → Wd K (Zp Z Dl) ph4 m4 H4 → RepV K (Zp Z Dl) ph4 H4 v y → go (items.drop (i + 1)) m4 = some (rest', m') → rest = y :: rest' → ∃ acc, H4 Dl = some (.lst acc) ∧ acc.length < sizeLine ∧ N (upd H4 Dl (.lst (acc ++ [v])))) →
      (∀ ph4 m4 H4, Sx ph2 H2 ph4 H4 → Wd K (Zp Z Dl) ph4 m4 H4 → go (items.drop (i + 1)) m4 = some (rest, m') → N H4) →
      g x (wipe σ vs) H2 fun σ2 H3 => wipe σ2 vs = wipe σ vs ∧ tt σ2 H3 fun b H4 => if b = true then te σ2 H4 fun y H5 => ∃ acc, H5 Dl = some (.lst acc) ∧ acc.length < sizeLine ∧ N (upd H5 Dl (.lst (acc ++ [y]))) else N H4)
    (q : NP K Z ph1 H1 m' ds Q) :
    ∃ W : Nat → Nat → Hp → Prop, (∃ k, W 0 k (upd H1 Dl (.lst []))) ∧ ∀ i k H, W i k H →
      (J.stop i H ∧ Q (.ref Dl) H) ∨ (J.go i H ∧ ∃ Nx : Hp → Prop, (∀ H', Nx H' → ∃ k', k' < k ∧ W (i + 1) k' H') ∧ ∀ x H', J.yld i H x H' → g x (wipe σ vs) H' fun σ2 H2 => wipe σ2 vs = wipe σ vs ∧ tt σ2 H2 fun b H3 =>
        if b = true then te σ2 H3 fun y H4 => ∃ acc, H4 Dl = some (.lst acc) ∧ acc.length < sizeLine ∧ Nx (upd H4 Dl (.lst (acc ++ [y]))) else Nx H3) := by
  refine ⟨fun i k H => k = items.length - i ∧ CAt K Z ph1 H1 Dl go items ds m' i H, ⟨items.length, by simp, Nat.zero_le _, ?_⟩, ?_⟩
  · exact ⟨ph1, m, [], [], ds, Sx.upd hD, wd.newZ hD, wd.np hD, upd_same, .nil, Nat.le_refl _, by simpa using e, by simp⟩
  · rintro i k H ⟨rfl, hi, ph2, m2, accv, accd, rest, s2, w2, n2, hDl, ra, hla, hg, hds⟩
    by_cases hlt : i < items.length
    · refine .inr ⟨yd.go i ph2 H hlt s2, CAt K Z ph1 H1 Dl go items ds m' (i + 1), fun H' h => ⟨items.length - (i + 1), by omega, rfl, h⟩, fun x H' hy => ?_⟩
      obtain ⟨hg', d, hd, rx⟩ := yd.yld (Zp Z Dl) i ph2 H x H' (fun a ha => ha.elim (fun e => .inr (by rw [e]; exact hD)) .inl) hlt s2 hy
      have s3 : Sx ph2 H ph2 H' := Sx.grow (x := x) hg'
      have w3 : Wd K (Zp Z Dl) ph2 m2 H' := w2.grow hg'
      have hdr : items.drop i = d :: items.drop (i + 1) := by
        have e2 : items[i] = d := by rw [List.getElem?_eq_getElem hlt] at hd; exact Option.some.inj hd
        rw [List.drop_eq_getElem_cons hlt, e2]
      rw [hdr] at hg
      refine turn i d ph2 m2 H' x rest _ hd (s2.trans s3) w3 (((re.zp hD).mono (s2.trans s3)).wipe vs fun i _ => yN_off i) rx hg (fun ph4 m4 H4 v y rest' s4 w4 rv hg4 er => ?_) (fun ph4 m4 H4 s4 w4 hg4 => ?_)
      · have hD4 : H4 Dl = some (.lst accv) := s4.fr _ _ (s3.fr _ _ hDl n2 .lst) n2 .lst
        have n4 : Dl ∉ ph4 := (s3.trans s4).notin hDl n2
        refine ⟨accv, hD4, by rw [ra.len, ← lim_eq]; omega, hlt, ph4, m4, accv ++ [v], accd ++ [y], rest', ((s2.trans s3).trans s4).updNew hD hD4 (fun _ e => by cases e) (fun f => f.l _ rfl), w4.updZ (.inl rfl) n4 hD4, n4, upd_same, ?_, by simp; omega, hg4, by rw [← hds, er]; simp⟩
        exact (((ra.mono s3).mono s4).append (.cons rv .nil)).updZ (.inl rfl) hD4
      · have hD4 : H4 Dl = some (.lst accv) := s4.fr _ _ (s3.fr _ _ hDl n2 .lst) n2 .lst
        have n4 : Dl ∉ ph4 := (s3.trans s4).notin hDl n2
        exact ⟨hlt, ph4, m4, accv, accd, rest, (s2.trans s3).trans s4, w4, n4, hD4, (ra.mono s3).mono s4, by omega, hg4, hds⟩
    · have ei : i = items.length := by omega
      subst ei
      rw [List.drop_length, hgo] at hg
      cases hg
      rw [List.append_nil] at hds
      subst hds
      exact .inl ⟨yd.stop ph2 H s2, q ph2 H Dl accv hD hDl n2 s2 w2 ra⟩
theorem comp_read (hin : tgIn (own.map (·.2)) t = true) {K : PySem.W.Frag} (σ : L2.St) (H : Hp) (Q : VK) (h : tEvN K y_ (rComp_ own t ri rx) σ H Q) : tLc (tEvI K y_ ri) (gT K yN t) tYes (tEv K yN rx) (own.map (·.2)) σ H Q := by
  obtain ⟨Z, ph, env, m, re, wd, q⟩ := h
  refine ⟨Z, ph, env, m, re, wd, q.bind fun items m1 ph1 H1 s1 w1 q J yd Dl hD => ?_⟩
  split at q
  · rename_i hl
    split at q
    · rename_i qq h2
      obtain ⟨ys, mm⟩ := qq
      obtain ⟨ds, e, q⟩ := q
      cases e
      refine comp_run (go := compL t (wipeE env (own.map (·.2))) rx) (fun _ => rfl) ((re.mono s1).plain rfl) w1 hD yd h2 hl ?_ q
      intro i d ph2 m2 H2 x rest N hd s2 w2 re2 rx2 hg k1 k2
      simp only [compL] at hg
      obtain ⟨e1, b1, hg⟩ := Option.bind_eq_some_iff.mp hg
      obtain ⟨y, b2, hg⟩ := Option.bind_eq_some_iff.mp hg
      obtain ⟨r, b3, hg⟩ := Option.bind_eq_some_iff.mp hg
      cases hg
      refine ⟨_, ph2, _, m2, d, e1, re2, w2, rx2, b1, fun σ' re' hw => ⟨by rw [hw _ hin, wipe_wipe], _, ph2, e1, m2, re', w2, ?_⟩⟩
      rw [calm_ok b2]
      exact fun ph4 H4 s4 w4 v r4 => k1 ph4 y.2 H4 v y.1 r.1 s4 w4 r4 b3 rfl
    · exact q.elim
  · exact q.elim
theorem compI_read (hin : tgIn (own.map (·.2)) t = true) {K : PySem.W.Frag} (σ : L2.St) (H : Hp) (Q : VK) (h : tEvN K y_ (rCompI_ own t ri rc rx) σ H Q) : tLc (tEvI K y_ ri) (gT K yN t) (tEvT K yN rc) (tEv K yN rx) (own.map (·.2)) σ H Q := by
  obtain ⟨Z, ph, env, m, re, wd, q⟩ := h
  refine ⟨Z, ph, env, m, re, wd, q.bind fun items m1 ph1 H1 s1 w1 q J yd Dl hD => ?_⟩
  split at q
  · rename_i hl
    split at q
    · rename_i qq h2
      obtain ⟨ys, mm⟩ := qq
      obtain ⟨ds, e, q⟩ := q
      cases e
      refine comp_run (go := compLI t (wipeE env (own.map (·.2))) rc rx) (fun _ => rfl) ((re.mono s1).plain rfl) w1 hD yd h2 hl ?_ q
      intro i d ph2 m2 H2 x rest N hd s2 w2 re2 rx2 hg k1 k2
      simp only [compLI] at hg
      obtain ⟨e1, b1, hg⟩ := Option.bind_eq_some_iff.mp hg
      obtain ⟨cc, b0, hg⟩ := Option.bind_eq_some_iff.mp hg
      have b0 := calm_ok b0
      refine ⟨_, ph2, _, m2, d, e1, re2, w2, rx2, b1, fun σ' re' hw => ⟨by rw [hw _ hin, wipe_wipe], _, ph2, e1, m2, re', w2, ?_⟩⟩
      rw [b0]
      intro ph3 H3 s3 w3
      split at hg
      · rename_i hp
        obtain ⟨y, b2, hg⟩ := Option.bind_eq_some_iff.mp hg
        obtain ⟨r, b3, hg⟩ := Option.bind_eq_some_iff.mp hg
        cases hg
        refine ⟨true, hp, iteT ?_⟩
        refine ⟨_, ph3, e1, cc.2, re'.mono s3, w3, ?_⟩
        rw [calm_ok b2]
        exact fun ph4 H4 s4 w4 v r4 => k1 ph4 y.2 H4 v y.1 r.1 (s3.trans s4) w4 r4 b3 rfl
      · rename_i hp
        refine ⟨false, hp, iteF ?_⟩
        exact k2 ph3 cc.2 H3 s3 w3 hg
      · cases hg
    · exact q.elim
  · exact q.elim
theorem n_compN (hc : X.calm = true) (hN : X.N.Nodup) (hi : PI X tg it (tEvI X.K y_ ri)) (ok : BlkOk X.N X.env.scope scope own) (hin : tgIn (own.map (·.2)) t = true)
    (hg : ∀ (s : Shared) (H : Hp) (C : Addr) (cl : List (Str × Addr)) (fp : List Addr), PG (X.blk s H scope (compEnvC scope cl C X.env) fp) tg (gT X.K yN t))
    (he : ∀ (s : Shared) (H : Hp) (C : Addr) (cl : List (Str × Addr)) (fp : List Addr), PE (X.blk s H scope (compEnvC scope cl C X.env) fp) x (tEv X.K yN rx)) (hs : ∀ v, foldedSetIterable it X.env v = pure v) :
    PE X (.ListComp x [⟨tg, it, [], 0⟩] scope pos) (tEvN X.K y_ (rComp_ own t ri rx)) :=
  pe_imp (pe_lc hc hN hi ok hg (fun _ _ _ _ _ => pts_nil) he hs) (comp_read hin)
theorem n_compIN (hc : X.calm = true) (hN : X.N.Nodup) (hi : PI X tg it (tEvI X.K y_ ri)) (ok : BlkOk X.N X.env.scope scope own) (hin : tgIn (own.map (·.2)) t = true)
    (hg : ∀ (s : Shared) (H : Hp) (C : Addr) (cl : List (Str × Addr)) (fp : List Addr), PG (X.blk s H scope (compEnvC scope cl C X.env) fp) tg (gT X.K yN t))
    (ht : ∀ (s : Shared) (H : Hp) (C : Addr) (cl : List (Str × Addr)) (fp : List Addr), PT (X.blk s H scope (compEnvC scope cl C X.env) fp) c (tEvT X.K yN rc))
    (he : ∀ (s : Shared) (H : Hp) (C : Addr) (cl : List (Str × Addr)) (fp : List Addr), PE (X.blk s H scope (compEnvC scope cl C X.env) fp) x (tEv X.K yN rx)) (hs : ∀ v, foldedSetIterable it X.env v = pure v) :
    PE X (.ListComp x [⟨tg, it, [c], 0⟩] scope pos) (tEvN X.K y_ (rCompI_ own t ri rc rx)) :=
  pe_imp (pe_lc hc hN hi ok hg (fun s H C cl fp => pts_one (ht s H C cl fp)) he hs) (compI_read hin)
theorem rComp_lst {env : Env} {m m' : M} {d : D} (h : rComp_ own t ri rx env m = .ok d m') : ∃ ds, d = .lst ds := by
  obtain ⟨p, m1, h1, e⟩ := rz_ok h
  split at e
  · split at e
    · cases e; exact ⟨_, rfl⟩
    · cases e
  · cases e
theorem rCompI_lst {env : Env} {m m' : M} {d : D} (h : rCompI_ own t ri rc rx env m = .ok d m') : ∃ ds, d = .lst ds := by
  obtain ⟨p, m1, h1, e⟩ := rz_ok h
  split at e
  · split at e
    · cases e; exact ⟨_, rfl⟩
    · cases e
  · cases e

/-! ### y = [..] on one line -/
variable {y : Str} {py spos : Pos} {i : Nat}
theorem s_setLc {t : Tg} (hc : X.calm = true) (hN : X.N.Nodup) (hy : X.N[i]? = some y) (hyl : X.env.scope.names.lookup y = some .local)
    (hsw : swapsWith (.ListComp x [⟨tg, it, [], 0⟩] scope pos) (some (.Name y py)) spos.line X.env = pure true) (hi : PI X tg it (tEvI X.K y_ ri)) (ok : BlkOk X.N X.env.scope scope own)
    (hg : ∀ (s : Shared) (H : Hp) (C : Addr) (cl : List (Str × Addr)) (fp : List Addr), PG (X.blk s H scope (compEnvC scope cl C X.env) fp) tg (gT X.K yN t))
    (he : ∀ (s : Shared) (H : Hp) (C : Addr) (cl : List (Str × Addr)) (fp : List Addr), PE (X.blk s H scope (compEnvC scope cl C X.env) fp) x (tEv X.K yN rx)) (hs : ∀ v, foldedSetIterable it X.env v = pure v) :
    PS X (.Assign [.Name y py] (.ListComp x [⟨tg, it, [], 0⟩] scope pos) spos) (tAsg (tLc (tEvI X.K y_ ri) (gT X.K yN t) tYes (tEv X.K yN rx) (own.map (·.2))) (gName i)) :=
  ps_setLc hc hN hy hyl hsw hi ok hg (fun _ _ _ _ _ => pts_nil) he hs
theorem s_setLcI {t : Tg} (hc : X.calm = true) (hN : X.N.Nodup) (hy : X.N[i]? = some y) (hyl : X.env.scope.names.lookup y = some .local)
    (hsw : swapsWith (.ListComp x [⟨tg, it, [c], 0⟩] scope pos) (some (.Name y py)) spos.line X.env = pure true) (hi : PI X tg it (tEvI X.K y_ ri)) (ok : BlkOk X.N X.env.scope scope own)
    (hg : ∀ (s : Shared) (H : Hp) (C : Addr) (cl : List (Str × Addr)) (fp : List Addr), PG (X.blk s H scope (compEnvC scope cl C X.env) fp) tg (gT X.K yN t))
    (ht : ∀ (s : Shared) (H : Hp) (C : Addr) (cl : List (Str × Addr)) (fp : List Addr), PT (X.blk s H scope (compEnvC scope cl C X.env) fp) c (tEvT X.K yN rc))
    (he : ∀ (s : Shared) (H : Hp) (C : Addr) (cl : List (Str × Addr)) (fp : List Addr), PE (X.blk s H scope (compEnvC scope cl C X.env) fp) x (tEv X.K yN rx)) (hs : ∀ v, foldedSetIterable it X.env v = pure v) :
    PS X (.Assign [.Name y py] (.ListComp x [⟨tg, it, [c], 0⟩] scope pos) spos) (tAsg (tLc (tEvI X.K y_ ri) (gT X.K yN t) (tEvT X.K yN rc) (tEv X.K yN rx) (own.map (·.2))) (gName i)) :=
  ps_setLc hc hN hy hyl hsw hi ok hg (fun s H C cl fp => pts_one (ht s H C cl fp)) he hs
end
end Pv

namespace Pv
open PySem L2
variable [TabT]
section
variable {K : PySem.W.Frag} {Z : Addr → Prop} {ph : List Addr} {H : Hp} {σ : L2.St} {env : Env} {p : Addr} {us us' : List V}
theorem RepE.updZ (re : RepE K yN Z ph H σ env) (hz : Z p) (h : H p = some (.lst us)) : RepE K yN Z ph (L2.upd H p (.lst us')) σ env :=
  ⟨re.len, fun i d e => let ⟨v, a, b⟩ := re.at_ i d e; ⟨v, a, b.updZ hz h⟩, fun i x e => by cases e⟩
end
section
variable {X : Cx} {x it tg tg1 c w : Expr} {scope : Scope} {pos p : Pos} {ri : RA} {ra rx rb rc : RE} {own : List (Str × Nat)} {vs1 : List Nat} {t t1 : Tg} {y_ : Yc}
/-- range(z), its bound read -/
def tRg (K : PySem.W.Frag) (y : Yc) (rb : RE) : TI := fun σ H R => tEv K y rb σ H fun v H1 => ∃ n, v = .int n ∧ -(2 ^ 62) ≤ n ∧ n < 2 ^ 62 ∧ R (Itr 0 n.toNat) H1
theorem i_rg (hg : Gl X "range") (hm : X.mg "range" = none) (ha : PE X x (tEv X.K y_ ra)) (hs : starEach [x] X.env = (false, eval x X.env) :: starEach [] X.env) : PI X tg (.Call (.Name "range" p) [x] [] pos) (tRg X.K y_ ra) :=
  pi_imp (pi_range1 hg hm (pa_cons ha pa_nil hs) hs) fun σ H R ⟨Z, ph, env, m, re, wd, q⟩ => ⟨Z, ph, env, m, re, wd, q.imp fun d m' ph' H' k u ru => by
    obtain ⟨n, rfl, h1, h2, h3⟩ := k u ru
    exact ⟨n, rfl, h1, h2, h3⟩⟩
def rComp2_ (own : List (Str × Nat)) (t : Tg) (vs1 : List Nat) (t1 : Tg) (ri : RA) (rb rc rx : RE) : RE := fun env m => (ri env m).bind fun ds m => if ds.length ≤ lim then (match comp2L t t1 vs1 (wipeE env (own.map (·.2))) rb rc rx ds m with
  | some q => if q.1.length ≤ lim then .ok (.lst q.1) q.2 else .no
  | none => .no) else .no
/-- where the comprehension stands behind i items of the first source -/
structure C2At (K : PySem.W.Frag) (Z : Addr → Prop) (ph1 : List Addr) (H1 : Hp) (Dl : Addr) (go : List D → M → Option (List D × M)) (items ds : List D) (m' : M) (i : Nat) (H : Hp) : Prop where
  le : i ≤ items.length
  ex : ∃ ph2 m2 accv accd rest, Sx ph1 H1 ph2 H ∧ Wd K (Zp Z Dl) ph2 m2 H ∧ Dl ∉ ph2 ∧ H Dl = some (.lst accv) ∧ RepVs K (Zp Z Dl) ph2 H accv accd ∧ go (items.drop i) m2 = some (rest, m') ∧ accd ++ rest = ds
/-- .. and of the second -/
structure C2In (K : PySem.W.Frag) (Z : Addr → Prop) (ph1 : List Addr) (H1 : Hp) (Dl : Addr) (σ : L2.St) (env : Env) (go : List D → M → Option (List D × M)) (items ds : List D) (m' : M) (i : Nat) (H : Hp) : Prop where
  le : i ≤ items.length
  ex : ∃ ph2 m2 accv accd rest, Sx ph1 H1 ph2 H ∧ Wd K (Zp Z Dl) ph2 m2 H ∧ Dl ∉ ph2 ∧ H Dl = some (.lst accv) ∧ RepVs K (Zp Z Dl) ph2 H accv accd ∧ RepE K yN (Zp Z Dl) ph2 H σ env ∧ go (items.drop i) m2 = some (rest, m') ∧ accd ++ rest = ds
theorem rng_drop {n i : Nat} (h : i < n) : (rangeD 0 n).drop i = .int (0 + (i : Int)) :: (rangeD 0 n).drop (i + 1) := by
  have hl : (rangeD 0 n).length = n := by simp [rangeD]
  have hi : i < (rangeD 0 n).length := by rw [hl]; exact h
  rw [List.drop_eq_getElem_cons hi]
  congr 1
  simp [rangeD]
theorem comp2_read (hin : tgIn (own.map (·.2)) t = true) (hin1 : tgIn vs1 t1 = true) {K : PySem.W.Frag} (σ : L2.St) (H : Hp) (Q : VK) (h : tEvN K y_ (rComp2_ own t vs1 t1 ri rb rc rx) σ H Q) :
    tLc2 (tEvI K y_ ri) (gT K yN t) tYes (tRg K yN rb) (gT K yN t1) (tEvT K yN rc) (tEv K yN rx) (own.map (·.2)) vs1 σ H Q := by
  obtain ⟨Z, ph, env, m, re, wd, q⟩ := h
  refine ⟨Z, ph, env, m, re, wd, q.bind fun items m1 ph1 H1 s1 w1 q J yd Dl hD => ?_⟩
  split at q
  · rename_i hl
    split at q
    · rename_i qq h2
      obtain ⟨ds0, m'⟩ := qq
      split at q
      · rename_i hl2
        obtain ⟨ds, e, q⟩ := q
        cases e
        have re := (re.mono s1).plain (y' := yN) rfl
        refine ⟨fun i k H => k = items.length - i ∧ C2At K Z ph1 H1 Dl (comp2L t t1 vs1 (wipeE env (own.map (·.2))) rb rc rx) items ds0 m' i H, ⟨items.length, by simp, Nat.zero_le _, ?_⟩, ?_⟩
        · exact ⟨ph1, m1, [], [], ds0, Sx.upd hD, w1.newZ hD, w1.np hD, upd_same, .nil, by simpa using h2, by simp⟩
        · rintro i k H ⟨rfl, hi, ph2, m2, accv, accd, rest, s2, w2, n2, hDl, racc, hg, hds⟩
          by_cases hlt : i < items.length
          · refine .inr ⟨yd.go i ph2 H hlt s2, C2At K Z ph1 H1 Dl (comp2L t t1 vs1 (wipeE env (own.map (·.2))) rb rc rx) items ds0 m' (i + 1), fun H' h => ⟨items.length - (i + 1), by omega, rfl, h⟩, fun x H' hy => ?_⟩
            obtain ⟨hg', d, hd, rx'⟩ := yd.yld (Zp Z Dl) i ph2 H x H' (fun a ha => ha.elim (fun e => .inr (by rw [e]; exact hD)) .inl) hlt s2 hy
            have s3 : Sx ph2 H ph2 H' := Sx.grow (x := x) hg'
            have w3 : Wd K (Zp Z Dl) ph2 m2 H' := w2.grow hg'
            have hdr : items.drop i = d :: items.drop (i + 1) := by
              have e2 : items[i] = d := by rw [List.getElem?_eq_getElem hlt] at hd; exact Option.some.inj hd
              rw [List.drop_eq_getElem_cons hlt, e2]
            rw [hdr] at hg
            simp only [comp2L] at hg
            obtain ⟨e1, b1, hg⟩ := Option.bind_eq_some_iff.mp hg
            obtain ⟨pn, b2, hg⟩ := Option.bind_eq_some_iff.mp hg
            obtain ⟨js, b3, hg⟩ := Option.bind_eq_some_iff.mp hg
            obtain ⟨qi, b4, hg⟩ := Option.bind_eq_some_iff.mp hg
            obtain ⟨qo, b5, hg⟩ := Option.bind_eq_some_iff.mp hg
            cases hg
            have b2 := calm_ok b2
            refine ⟨_, ph2, _, m2, d, e1, ((re.zp hD).mono (s2.trans s3)).wipe _ fun i _ => yN_off i, w3, rx', b1, fun σ' re' hw => ⟨by rw [hw _ hin, wipe_wipe], ?_⟩⟩
            simp only [tYes, ↓reduceIte]
            refine ⟨_, ph2, e1, m2, re', w3, ?_⟩
            rw [b2]
            intro ph4 H4 s4 w4 v r4
            -- the second source is a range
            generalize pn.1 = pd at b3 r4
            cases pd <;> simp only [rng1I] at b3 <;> try cases b3
            rename_i n
            cases r4
            split at b3
            · rename_i hk
              simp only [rgOk, Bool.and_eq_true, decide_eq_true_eq] at hk
              cases b3
              have hjl : (rangeD 0 n.toNat).length = n.toNat := by simp [rangeD]
              have hD4 : H4 Dl = some (.lst accv) := s4.fr _ _ (s3.fr _ _ hDl n2 .lst) n2 .lst
              have n4 : Dl ∉ ph4 := (s3.trans s4).notin hDl n2
              refine ⟨n, rfl, hk.1, hk.2, fun j k H => k = n.toNat - j ∧ C2In K Z ph1 H1 Dl σ' e1 (compLI t1 (wipeE e1 vs1) rc rx) (rangeD 0 n.toNat) (accd ++ qi.1) qi.2 j H, ⟨n.toNat, by simp, Nat.zero_le _, ?_⟩, ?_⟩
              · exact ⟨ph4, pn.2, accv, accd, qi.1, (s2.trans s3).trans s4, w4, n4, hD4, (racc.mono s3).mono s4, re'.mono s4, by rw [List.drop_zero]; exact b4, rfl⟩
              · rintro j k H5 ⟨rfl, hj, ph5, m5, accv5, accd5, rest5, s5, w5, n5, hD5, racc5, re5, hg5, hds5⟩
                rw [hjl] at hj
                by_cases hjt : j < n.toNat
                · refine .inr ⟨hjt, C2In K Z ph1 H1 Dl σ' e1 (compLI t1 (wipeE e1 vs1) rc rx) (rangeD 0 n.toNat) (accd ++ qi.1) qi.2 (j + 1), fun H' h => ⟨n.toNat - (j + 1), by omega, rfl, h⟩, fun x1 H6 hy1 => ?_⟩
                  obtain ⟨rfl, rfl⟩ := hy1
                  rw [rng_drop hjt] at hg5
                  simp only [compLI] at hg5
                  obtain ⟨e6, d1, hg5⟩ := Option.bind_eq_some_iff.mp hg5
                  obtain ⟨cc, d2, hg5⟩ := Option.bind_eq_some_iff.mp hg5
                  have d2 := calm_ok d2
                  refine ⟨_, ph5, _, m5, .int (0 + (j : Int)), e6, re5.wipe vs1 fun i _ => yN_off i, w5, .int _, d1, fun σ6 re6 hw6 => ⟨by rw [hw6 _ hin1, wipe_wipe], _, ph5, e6, m5, re6, w5, ?_⟩⟩
                  rw [d2]
                  intro ph7 H7 s7 w7
                  have hD7 : H7 Dl = some (.lst accv5) := s7.fr _ _ hD5 n5 .lst
                  have n7 : Dl ∉ ph7 := s7.notin hD5 n5
                  split at hg5
                  · rename_i hp
                    obtain ⟨y, d3, hg5⟩ := Option.bind_eq_some_iff.mp hg5
                    obtain ⟨r, d4, hg5⟩ := Option.bind_eq_some_iff.mp hg5
                    obtain ⟨rfl, hq2⟩ := Prod.mk.inj (Option.some.inj hg5)
                    refine ⟨true, hp, iteT ?_⟩
                    refine ⟨_, ph7, e6, cc.2, re6.mono s7, w7, ?_⟩
                    rw [calm_ok d3]
                    intro ph8 H8 s8 w8 v r8
                    have hD8 : H8 Dl = some (.lst accv5) := s8.fr _ _ hD7 n7 .lst
                    have n8 : Dl ∉ ph8 := s8.notin hD7 n7
                    have hlen : accd5.length < lim := by
                      have h1 : (accd5 ++ y.1 :: r.1).length = (accd ++ qi.1).length := by rw [hds5]
                      have h2 : (accd ++ (qi.1 ++ qo.1)).length ≤ lim := by rw [hds]; exact hl2
                      simp only [List.length_append, List.length_cons] at h1 h2
                      omega
                    refine ⟨accv5, hD8, by rw [racc5.len, ← lim_eq]; exact hlen, by rw [hjl]; exact hjt, ph8, y.2, accv5 ++ [v], accd5 ++ [y.1], r.1, ((s5.trans s7).trans s8).updNew hD hD8 (fun _ e => by cases e) (fun f => f.l _ rfl), w8.updZ (.inl rfl) n8 hD8, n8, upd_same, ?_, ((re5.mono s7).mono s8).updZ (.inl rfl) hD8, by rw [d4, ← hq2], ?_⟩
                    · exact (((racc5.mono s7).mono s8).append (.cons r8 .nil)).updZ (.inl rfl) hD8
                    · rw [← hds5]; simp
                  · rename_i hp
                    refine ⟨false, hp, iteF ?_⟩
                    exact ⟨by rw [hjl]; exact hjt, ph7, cc.2, accv5, accd5, rest5, s5.trans s7, w7, n7, hD7, racc5.mono s7, re5.mono s7, hg5, hds5⟩
                  · cases hg5
                · have ej : j = n.toNat := by omega
                  subst ej
                  rw [List.drop_eq_nil_of_le (by rw [hjl]; exact Nat.le_refl _)] at hg5
                  obtain ⟨rfl, hq2⟩ := Prod.mk.inj (Option.some.inj hg5)
                  rw [List.append_nil] at hds5
                  subst hds5
                  refine .inl ⟨Nat.le_refl _, hlt, ph5, m5, accv5, accd ++ qi.1, qo.1, s5, w5, n5, hD5, racc5, by rw [hq2]; exact b5, ?_⟩
                  rw [← hds]; simp
            · cases b3
          · have ei : i = items.length := by omega
            subst ei
            rw [List.drop_length] at hg
            cases hg
            rw [List.append_nil] at hds
            subst hds
            exact .inl ⟨yd.stop ph2 H s2, q ph2 H Dl accv hD hDl n2 s2 w2 racc⟩
      · exact q.elim
    · exact q.elim
  · exact q.elim
theorem n_comp2N (hc : X.calm = true) (hN : X.N.Nodup) (hi : PI X tg it (tEvI X.K y_ ri)) (ok : BlkOk X.N X.env.scope scope own) (hv : ∀ i ∈ vs1, i ∈ own.map (·.2)) (hin : tgIn (own.map (·.2)) t = true) (hin1 : tgIn vs1 t1 = true)
    (hg : ∀ (s : Shared) (H : Hp) (C : Addr) (cl : List (Str × Addr)) (fp : List Addr), PG (X.blk s H scope (compEnvC scope cl C X.env) fp) tg (gT X.K yN t))
    (hi1 : ∀ (s : Shared) (H : Hp) (C : Addr) (cl : List (Str × Addr)) (fp : List Addr), PI (X.blk s H scope (compEnvC scope cl C X.env) fp) tg1 w (tRg X.K yN rb))
    (hg1 : ∀ (s : Shared) (H : Hp) (C : Addr) (cl : List (Str × Addr)) (fp : List Addr), PG (X.blk s H scope (compEnvC scope cl C X.env) fp) tg1 (gT X.K yN t1))
    (ht : ∀ (s : Shared) (H : Hp) (C : Addr) (cl : List (Str × Addr)) (fp : List Addr), PT (X.blk s H scope (compEnvC scope cl C X.env) fp) c (tEvT X.K yN rc))
    (he : ∀ (s : Shared) (H : Hp) (C : Addr) (cl : List (Str × Addr)) (fp : List Addr), PE (X.blk s H scope (compEnvC scope cl C X.env) fp) x (tEv X.K yN rx)) (hs : ∀ v, foldedSetIterable it X.env v = pure v) (hs1 : ∀ env v, foldedSetIterable w env v = pure v) :
    PE X (.ListComp x [⟨tg, it, [], 0⟩, ⟨tg1, w, [c], 0⟩] scope pos) (tEvN X.K y_ (rComp2_ own t vs1 t1 ri rb rc rx)) :=
  pe_imp (pe_lc2 hc hN hi ok hv hg (fun _ _ _ _ _ => pts_nil) hi1 hg1 (fun s H C cl fp => pts_one (ht s H C cl fp)) he hs hs1) (comp2_read hin hin1)
theorem rComp2_lst {env : Env} {m m' : M} {d : D} (h : rComp2_ own t vs1 t1 ri rb rc rx env m = .ok d m') : ∃ ds, d = .lst ds := by
  obtain ⟨p, m1, h1, e⟩ := rz_ok h
  split at e
  · split at e
    · split at e
      · cases e; exact ⟨_, rfl⟩
      · cases e
    · cases e
  · cases e
variable {y : Str} {py spos : Pos} {i : Nat}
theorem s_setLc2 (hc : X.calm = true) (hN : X.N.Nodup) (hy : X.N[i]? = some y) (hyl : X.env.scope.names.lookup y = some .local)
    (hsw : swapsWith (.ListComp x [⟨tg, it, [], 0⟩, ⟨tg1, w, [c], 0⟩] scope pos) (some (.Name y py)) spos.line X.env = pure true) (hi : PI X tg it (tEvI X.K y_ ri)) (ok : BlkOk X.N X.env.scope scope own) (hv : ∀ i ∈ vs1, i ∈ own.map (·.2))
    (hg : ∀ (s : Shared) (H : Hp) (C : Addr) (cl : List (Str × Addr)) (fp : List Addr), PG (X.blk s H scope (compEnvC scope cl C X.env) fp) tg (gT X.K yN t))
    (hi1 : ∀ (s : Shared) (H : Hp) (C : Addr) (cl : List (Str × Addr)) (fp : List Addr), PI (X.blk s H scope (compEnvC scope cl C X.env) fp) tg1 w (tRg X.K yN rb))
    (hg1 : ∀ (s : Shared) (H : Hp) (C : Addr) (cl : List (Str × Addr)) (fp : List Addr), PG (X.blk s H scope (compEnvC scope cl C X.env) fp) tg1 (gT X.K yN t1))
    (ht : ∀ (s : Shared) (H : Hp) (C : Addr) (cl : List (Str × Addr)) (fp : List Addr), PT (X.blk s H scope (compEnvC scope cl C X.env) fp) c (tEvT X.K yN rc))
    (he : ∀ (s : Shared) (H : Hp) (C : Addr) (cl : List (Str × Addr)) (fp : List Addr), PE (X.blk s H scope (compEnvC scope cl C X.env) fp) x (tEv X.K yN rx)) (hs : ∀ v, foldedSetIterable it X.env v = pure v) (hs1 : ∀ env v, foldedSetIterable w env v = pure v) :
    PS X (.Assign [.Name y py] (.ListComp x [⟨tg, it, [], 0⟩, ⟨tg1, w, [c], 0⟩] scope pos) spos) (tAsg (tLc2 (tEvI X.K y_ ri) (gT X.K yN t) tYes (tRg X.K yN rb) (gT X.K yN t1) (tEvT X.K yN rc) (tEv X.K yN rx) (own.map (·.2)) vs1) (gName i)) :=
  ps_setLc2 hc hN hy hyl hsw hi ok hv hg (fun _ _ _ _ _ => pts_nil) hi1 hg1 (fun s H C cl fp => pts_one (ht s H C cl fp)) he hs hs1
end
end Pv

namespace Pv
open PySem PySem.Spec PyProof.Rows PySem.W L2
variable [TabT]
/-! ## a lambda of one parameter -/
structure LmS (sc scope : Scope) (p : Str) : Prop where
  kd : scope.kind = .function
  co : scope.isCoroutine = false
  ge : scope.isGenerator = false
  pa : scope.names.lookup p = some .local
  ow : ∀ y ∈ scope.names, y.2 ≠ .cell ∧ (y.2 = .local → y.1 = p)
  fr : ∀ y ∈ scope.names, y.2 = .free → sc.names.lookup y.1 = some .cell ∨ sc.names.lookup y.1 = some .free
def lmSB (sc scope : Scope) (p : Str) : Bool :=
  decide (scope.kind = .function) && !scope.isCoroutine && !scope.isGenerator && decide (scope.names.lookup p = some .local) &&
    scope.names.all fun y => !decide (y.2 = .cell) && (!decide (y.2 = .local) || decide (y.1 = p)) && (!decide (y.2 = .free) || (decide (sc.names.lookup y.1 = some .cell) || decide (sc.names.lookup y.1 = some .free)))
theorem lmSB_ok {sc scope : Scope} {p : Str} (h : lmSB sc scope p = true) : LmS sc scope p := by
  unfold lmSB at h
  simp only [Bool.and_eq_true, Bool.or_eq_true, Bool.not_eq_true', decide_eq_true_eq, decide_eq_false_iff_not, List.all_eq_true] at h
  obtain ⟨⟨⟨⟨a1, a2⟩, a3⟩, a4⟩, a5⟩ := h
  exact ⟨a1, a2, a3, a4, fun y hy => ⟨(a5 y hy).1.1, fun e => (a5 y hy).1.2.resolve_left fun n => n e⟩, fun y hy e => (a5 y hy).2.resolve_left fun n => n e⟩
section
variable {X : Cx} {pins : List (Addr × Obj)} {σ : L2.St} {H : Hp} {s : Shared} {scope : Scope} {p : Str}
theorem LmS.has (L : LmS X.env.scope scope p) (ok : X.Ok) : ∀ y ∈ scope.names, y.2 = .free → ∃ c, X.env.cells.lookup y.1 = some c := fun y hy e =>
  ok.has y.1 (L.fr y hy e)
/-- the lambda's frame, entered from the maker's -/
theorem lm_start {A : Around} {E : XK} {f c' : Addr} {h₁ : Heap} {tk i : Nat} {v : V} {u : Value} (I : Inv X pins σ H s) (L : LmS X.env.scope scope p) (e0 : Env0 X.prog X.w X.K X.mg X.base A X.stack s H) (hd : A.handled = none) (hN : X.N.Nodup) (hi : X.N[i]? = some p) (r : RelV v u)
    (hns : h₁.Ns s.heap.objs.size fun y => ([(p, u)] : List (Str × Value)).reverse.lookup y) (kp : ∀ b o, s.heap.get? b = some o → h₁.get? b = some o) :
    Inv (LamX.lamCx X A X.stack s H E scope f c') [] (σ.set i (some v)) H { s with heap := h₁, toks := tk } := by
  have have_ := L.has I.ok
  -- the captured cells are cells of the maker
  have sub : ∀ {y c}, (cloFrom X.env.cells scope.names []).lookup y = some c → X.env.cells.lookup y = some c := by
    intro y c e
    rcases cloFrom_mem (PySem.mem_of_lookup e) with hm | ⟨hy, hc⟩
    · cases hm
    · obtain ⟨c1, q⟩ := have_ _ hy rfl
      have q : X.env.cells.lookup y = some c1 := q
      rw [hc, q]; rfl
  have cap : ∀ {y}, scope.names.lookup y = some .free → ∃ c, (cloFrom X.env.cells scope.names []).lookup y = some c := by
    intro y hl
    exact mem_lookup (cloFrom_has (cells := X.env.cells) (acc := []) (show (y, NameKind.free) ∈ scope.names from PySem.mem_of_lookup hl))
  have isC : ∀ {c : Addr} {w : Option Value}, s.heap.IsCell c w → h₁.IsCell c w := fun ⟨o, ho, q⟩ => ⟨o, kp _ _ ho, q⟩
  have hex : ∀ b : Addr, b ∉ (LamX.lamCx X A X.stack s H E scope f c').ex := by
    intro b z
    have z : b ∈ ([] : List Addr) := z
    simp at z
  have hcell : ∀ y, scope.names.lookup y ≠ some .cell := fun y e => (L.ow _ (PySem.mem_of_lookup e)).1 rfl
  have okC : (LamX.lamCx X A X.stack s H E scope f c').Ok := by
    constructor
    case mod => exact e0.mod
    case kind => exact L.kd
    case glob => rfl
    case blt => rfl
    case above => exact Nat.le_refl _
    case inj => exact fun y z c a b => I.ok.inj y z c (sub a) (sub b)
    case has =>
      intro y hy
      have hy : scope.names.lookup y = some .cell ∨ scope.names.lookup y = some .free := hy
      exact hy.elim (fun k => absurd k (hcell y)) cap
    case cab => exact fun y c z _ => Bool.noConfusion (show false = true from z)
    case hd => exact fun _ => hd
    case frames => exact Around.frames_deeper e0.frames
    case stk => exact .inr ⟨rfl, rfl⟩
    case exf => exact fun b z => absurd z (hex b)
    case bs => exact e0.bs
    case bsz => exact e0.bsz
    case noex => exact fun b _ _ => hex b
    case exfs => exact fun b z => absurd z (hex b)
    case funs => exact e0.funs
    case frf => exact e0.frf
  have iN : ∀ {j : Nat} {y : Str}, X.N[j]? = some y → y = p → j = i := fun {j y} e ey => by
    obtain ⟨h1, e1⟩ := List.getElem?_eq_some_iff.mp e
    obtain ⟨h2, e2⟩ := List.getElem?_eq_some_iff.mp hi
    exact (List.getElem_inj hN).mp (by rw [e1, e2, ey])
  constructor
  case ok => exact okC
  case os => rfl
  case bare => exact e0.bare
  case base => exact Un.kept kp
  case loc =>
    refine ⟨_, hns, fun j y w e1 e2 e3 => ?_⟩
    have e1 : X.N[j]? = some y := e1
    have e3 : Vis scope y := e3
    by_cases hy : y = p
    · have hj := iN e1 hy
      subst hj hy
      have hlt : j < σ.length := by rw [I.len]; exact (List.getElem?_eq_some_iff.mp hi).1
      rw [List.getElem?_set_self hlt] at e2
      cases e2
      exact ⟨u, r, .inl ⟨L.pa, by simp⟩⟩
    · have hj : i ≠ j := fun q => by
        subst q
        rw [hi] at e1
        exact hy (Option.some.inj e1).symm
      rw [List.getElem?_set_ne hj] at e2
      rcases e3 with k | k | k
      · exact absurd ((L.ow _ (PySem.mem_of_lookup k)).2 rfl) hy
      · exact absurd k (hcell y)
      · obtain ⟨m, hn, hl⟩ := I.loc
        have up := L.fr _ (PySem.mem_of_lookup k) rfl
        obtain ⟨w', r', q⟩ := hl j y w e1 e2 (.inr up)
        obtain ⟨c2, h2⟩ := cap k
        refine ⟨w', r', .inr ⟨.inr k, c2, h2, ?_⟩⟩
        rcases q with ⟨kl, _⟩ | ⟨_, c3, e4, z⟩
        · have kl : X.env.scope.names.lookup y = some .local := kl
          have up : X.env.scope.names.lookup y = some .cell ∨ X.env.scope.names.lookup y = some .free := up
          rcases up with a | a <;> (rw [a] at kl; cases kl)
        · rw [sub h2] at e4
          cases e4
          exact isC z
  case cell => exact fun y c e => let ⟨w, z⟩ := I.cell y c (sub e); ⟨w, isC z⟩
  case free => exact e0.hok.fresh (Nat.le_refl _)
  case freeC => exact fun y c e => I.freeC y c (sub e)
  case pin =>
    intro q hq
    have hq : q ∈ ([] : List (Addr × Obj)) ++ [] := hq
    simp at hq
  case hok => exact e0.hok.kept kp
  case len => rw [List.length_set]; exact I.len
/-- the made lambda, as it stands -/
structure LmAt (X : Cx) (H : Hp) (h : Heap) (p : Str) (params : Arguments) (body : Expr) (scope : Scope) (f c' : Addr) : Prop where
  ex : ∃ (pm ctv : Value), h.get? f = some (kla_obj "<lambda>" (X.env.qual ++ "<lambda>") params body scope (cloFrom X.env.cells scope.names []) pm c' ctv)
  co : H c' = some (LamX.CodeO c' (X.env.qual ++ "<lambda>"))
def lamBinds (params : Arguments) (body : Expr) (scope : Scope) (p : Str) : Prop := ∀ (q : Str) (cl : List (Str × Addr)) (pm cv ctv : Value) (u : Value), bindArgs (kla_fn "<lambda>" q params body scope cl pm cv ctv) ⟨[u], []⟩ = pure [(p, u)]
/-- f(u), from within a built-in -/
theorem lm_call {params : Arguments} {body : Expr} {f c' : Addr} {i : Nat} {v : V} {u : Value} {tb : TE} {Q : VK} (I : Inv X pins σ H s) (L : LmS X.env.scope scope p) (hl : LmAt X H s.heap p params body scope f c') (hb : lamBinds params body scope p) (hd : X.A.handled = none) (hr : X.A.depth < recursionLimit) (hN : X.N.Nodup) (hi : X.N[i]? = some p) (r : RelV v u)
    (hbody : PE (LamX.lamCx X X.A.in1.in1 X.stack s H (fun _ _ _ => False) scope f c') body tb) (h : tb (σ.set i (some v)) H Q) :
    wpAny (model X.prog X.w) X.A.in1.in1 (call (.ref f) [u]) (EP X pins σ Q) (fun _ _ => False) s := by
  obtain ⟨pm, ctv, hf⟩ := hl.ex
  obtain ⟨⟨oc, vs, t, q1, q2, q3⟩, _, _⟩ := I.hok c' _ hl.co
  have e0 : Env0 X.prog X.w X.K X.mg X.base X.A.in1.in1 X.stack s H := I.env0.in1.in1
  have rc : codeAny (model X.prog X.w) X.A.in1.in1 (.call (.ref f) ⟨[u], []⟩) (CR (L2.CX X.prog X.w) X.stack X.prog X.w H s Q (fun _ _ _ => False)) s := by
    refine kla_callFunE hr hf rfl L.co L.ge rfl ⟨c', oc, vs, t, rfl, q1, q2, q3⟩ ?_
    rw [hb]
    refine wpAny_pure (wpAny_newFunctionEnv (fun y hy => (L.ow y hy).1) (fun y hy => ?_) (fun h₁ hns hsb => ⟨I.nolimit.fresh _ hsb, ?_⟩) L.kd)
    · rw [List.mem_singleton.mp hy]; exact L.pa
    show codeAny _ _ (.expr body (LamX.lamEnv X scope s.heap.objs.size f c')) _ _
    have kp : ∀ b o, s.heap.get? b = some o → h₁.get? b = some o := fun b o e => hsb.extBut b o (Nat.ne_of_lt (Heap.lt_size e)) (Heap.get?_push_of_some _ e)
    have J := lm_start (E := fun _ _ _ => False) (f := f) (c' := c') (tk := s.toks + ([(p, u)] : List (Str × Value)).length) I L e0 hd hN hi r hns kp
    refine kla_codeExpr (wpAny_mono (hbody.run [] _ _ H Q J h) (fun w s' hq => ?_) fun e s' hq => hq)
    obtain ⟨w', H', J', rv, q⟩ := hq
    exact ⟨w', H', J'.os, J'.bare, J'.base, J'.hok, rv, q⟩
  refine wpAny_call (codeAny_mono rc fun res s' hq => ?_)
  cases res with
  | error e =>
    obtain ⟨_, _, _, _, _, _, _, _, _, _, _, _, z⟩ := hq
    exact z.elim
  | ok fl =>
    cases fl with
    | ret w => exact I.after hq
    | next => exact hq.elim
    | brk => exact hq.elim
    | cont => exact hq.elim
end
/-! ## sorted(range(n), key=the lambda) -/
/-- where a record of the built-in may lie -/
def FpS (X : Cx) (pins : List (Addr × Obj)) (b : Addr) : Prop :=
  b ≠ X.env.locals ∧ b ∉ X.fs ∧ (b ∈ X.ex ∨ X.s_0.heap.objs.size ≤ b) ∧ (∀ x c, X.env.cells.lookup x = some c → c ≠ b) ∧ ∀ q ∈ X.pn ++ pins, q.1 ≠ b
section
variable {X : Cx} {pins : List (Addr × Obj)} {σ : L2.St} {H H0 : Hp} {s : Shared}
theorem FpS.ok {b : Addr} (h : FpS X pins b) (n : H b = none) : FpOk X pins H b := ⟨n, h.1, h.2.1, h.2.2.1, h.2.2.2.1, h.2.2.2.2⟩
theorem FpS.of {b : Addr} (h : FpOk X pins H b) : FpS X pins b := ⟨h.2.1, h.2.2.1, h.2.2.2.1, h.2.2.2.2.1, h.2.2.2.2.2⟩
theorem FpS.cons {b : Addr} {q : Addr × Obj} (h : FpS X pins b) (n : q.1 ≠ b) : FpS X (q :: pins) b := ⟨h.1, h.2.1, h.2.2.1, h.2.2.2.1, fun r hr => by
  rcases List.mem_append.mp hr with a | a
  · exact h.2.2.2.2 r (List.mem_append_left _ a)
  · rcases List.mem_cons.mp a with rfl | a
    · exact n
    · exact h.2.2.2.2 r (List.mem_append_right _ a)⟩
theorem FpS.tl {b : Addr} {q : Addr × Obj} (h : FpS X (q :: pins) b) : FpS X pins b := ⟨h.1, h.2.1, h.2.2.1, h.2.2.2.1, fun r hr => by
  rcases List.mem_append.mp hr with a | a
  · exact h.2.2.2.2 r (List.mem_append_left _ a)
  · exact h.2.2.2.2 r (List.mem_append_right _ (List.mem_cons_of_mem _ a))⟩
/-- one record more is held -/
theorem i_pinC {b : Addr} {o : Obj} (I : Inv X pins σ H s) (h : FpS X pins b) (n : H b = none) (e : s.heap.get? b = some o) (hd : ∀ v, o.data ≠ .cell v) : Inv X ((b, o) :: pins) σ H s := I.pins_of fun q hq => by
  rcases List.mem_cons.mp hq with rfl | hq
  · exact ⟨e, n, h.1, h.2.1, hd⟩
  · exact I.pin q (List.mem_append_right _ hq)
theorem i_unpinC {q : Addr × Obj} (I : Inv X (q :: pins) σ H s) : Inv X pins σ H s := I.pins_of fun r hr => I.pin r (List.mem_append_right _ (List.mem_cons_of_mem _ hr))
theorem i_pinH {q : Addr × Obj} (I : Inv X (q :: pins) σ H s) : s.heap.get? q.1 = some q.2 ∧ H q.1 = none := let h := I.pin q (List.mem_append_right _ List.mem_cons_self); ⟨h.1, h.2.1⟩
/-- a record that is held is changed -/
theorem i_pinU {b : Addr} {o o' : Obj} {h' : Heap} {tk : Nat} (I : Inv X ((b, o) :: pins) σ H s) (h : FpS X pins b) (k : ∀ c u, c ≠ b → s.heap.get? c = some u → h'.get? c = some u) (e : h'.get? b = some o') (hd : ∀ v, o'.data ≠ .cell v) : Inv X ((b, o') :: pins) σ H { s with heap := h', toks := tk } := by
  have hb := i_pinH I
  refine i_pinC ((i_unpinC I).turnedL (ch := [b]) (fun c u hc q => k c u (by simpa using hc) q) fun c hc => ?_) h hb.2 e hd
  rw [List.mem_singleton.mp hc]
  exact h.ok hb.2
/-- a record becomes a list of ours -/
theorem i_ours {a b : Addr} {h' : Heap} {tk n : Nat} {xs : List V} {its : List Value} (I : Inv X pins σ H s) (ha : FpS X pins a) (hb : FpS X pins b) (hn : H a = none) (hbn : H b = none) (k : ∀ c u, c ≠ a → c ≠ b → s.heap.get? c = some u → h'.get? c = some u)
    (e : h'.get? a = some (seqObj "list" its.toArray n)) (r : Vals xs its) (hz : xs.length ≤ sizeLine) : Inv X pins σ (upd H a (.lst xs)) { s with heap := h', toks := tk } := by
  have nch : ∀ {c u}, H c = some u → c ∉ [a, b] := fun {c u} q z => by
    simp only [List.mem_cons, List.not_mem_nil, or_false] at z
    rcases z with rfl | rfl
    · rw [hn] at q; cases q
    · rw [hbn] at q; cases q
  have kk : ∀ c u, c ∉ [a, b] → s.heap.get? c = some u → h'.get? c = some u := fun c u hc q => by
    simp only [List.mem_cons, List.not_mem_nil, or_false, not_or] at hc
    exact k c u hc.1 hc.2 q
  refine I.step (g' := s.gens) (d' := s.drawn) (ch := [a, b]) (fun c hc => ?_) (fun c o _ _ hc q _ => kk c o hc q) (fun c o _ _ hc q _ => ⟨o.slots, kk c o hc q⟩) (fun c o hc _ q => ?_) (fun c o hc q => ⟨o, kk c o hc q⟩) (fun c ys q => ?_) (fun c o u q => ?_) (fun c ps q => ⟨#[], ?_⟩) (fun m hm => ?_) (fun c u q => ?_) I.bare
  · simp only [List.mem_cons, List.not_mem_nil, or_false] at hc
    rcases hc with rfl | rfl
    · exact ⟨ha.2.2.1, ha.1, ha.2.2.2.1, ha.2.2.2.2⟩
    · exact ⟨hb.2.2.1, hb.1, hb.2.2.2.1, hb.2.2.2.2⟩
  · rw [upd_ne (fun z => hc (by rw [z]; simp))]; exact q
  · rw [upd_ne (ne_of_none q hn)]; exact q
  · rw [upd_ne (ne_of_none q hn)]; exact q
  · rw [upd_ne (ne_of_none q hn), q]; simp
  · obtain ⟨o, es, ep, ho, r⟩ := hm
    refine ⟨o, es, ep, kk _ o (fun z => ?_) ho, r⟩
    simp only [List.mem_cons, List.not_mem_nil, or_false] at z
    rcases z with z | z
    · exact ha.1 z.symm
    · exact hb.1 z.symm
  · by_cases hc : c = a
    · subst hc
      rw [upd_same] at q
      cases q
      exact ⟨hz, its, n, r, e⟩
    · rw [upd_ne hc] at q
      refine (I.hok c u q).stay (fun d o hd p => kk d o ?_ p) (fun d p => by rw [upd_ne (ne_of_none p hn)]; exact p) fun d ys p => by rw [upd_ne (ne_of_none p hn)]; exact p
      rcases hd with z | z
      · rw [z]; exact nch q
      · exact nch z
/-! the keys, made one by one -/
structure KAt (X : Cx) (P0 : List (Addr × Obj)) (σ : L2.St) (Z : Addr → Prop) (m : M) (ph0 : List Addr) (H0 : Hp) (a kS : Addr) (e1 : Nat) (kds : List D) (j : Nat) (s' : Shared) : Prop where
  ex : ∃ (ph : List Addr) (H : Hp) (kA : Array Value) (e : Nat) (kv : List V), Inv X ((kS, seqObj "list" kA e) :: (a, seqObj "list" #[] e1) :: P0) σ H s' ∧ Sx ph0 H0 ph H ∧ Wd X.K Z ph m H ∧ Vals kv kA.toList ∧ RepVs X.K Z ph H kv (kds.take j)
def keysAll (te : RE) (env : Env) (i : Nat) (m : M) (kds : List D) : Prop := ∀ (j : Nat) (d : D), kds[j]? = some d → te (env.set i (some (.int (j : Int)))) m = .ok d m ∧ pure_ d = true
/-- the heap but one object -/
def lessAt (h : Heap) (b : Addr) : Heap := h.update b fun o => { o with data := .freed }
theorem lessAt_none {h : Heap} {b : Addr} : (lessAt h b).get? b = none := by
  cases q : (lessAt h b).get? b with
  | none => rfl
  | some o =>
    obtain ⟨h1, h2⟩ := (Heap.get?_eq_some _ _ _).mp q
    unfold lessAt at h1
    rw [Heap.objs_update_self] at h1
    obtain ⟨o', _, rfl⟩ := Option.map_eq_some_iff.mp h1
    exact Bool.noConfusion h2
theorem lessAt_keep {h : Heap} {b c : Addr} (hc : c ≠ b) : (lessAt h b).get? c = h.get? c := (Heap.SameBut.update h b _).2 c hc
theorem rep_reads {Z : Addr → Prop} {ph : List Addr} (I : Inv X pins σ H s) : ∀ {kv : List V} {us : List Value} {ds : List D}, Vals kv us → RepVs X.K Z ph H kv ds → (∀ d ∈ ds, pure_ d = true) → EachIs (fun v k => ∃ as, Reads s.heap v k as) us (ds.map toP)
  | _, _, _, .nil, .nil, _ => .nil
  | _, _, _, .cons r rv, .cons h hs, hp => .cons (Dp.reads I _ _ _ (RepV.dp (hp _ List.mem_cons_self) h) r) (rep_reads I rv hs fun d hd => hp d (List.mem_cons_of_mem _ hd))
end
section
variable {X : Cx} {pins P0 : List (Addr × Obj)} {σ : L2.St} {H H0 : Hp} {s : Shared} {scope : Scope} {p : Str}
theorem key_turn {Z : Addr → Prop} {m : M} {ph0 : List Addr} {a kS f c' : Addr} {e1 i n : Nat} {kds : List D} {params : Arguments} {body : Expr} {fo : Obj} {te : RE} {env : Env} {E : Value → Shared → Prop}
    (L : LmS X.env.scope scope p) (hb : lamBinds params body scope p) (hd : X.A.handled = none) (hr : X.A.depth < recursionLimit) (hN : X.N.Nodup) (hi : X.N[i]? = some p)
    (hbody : ∀ (s : Shared) (H : Hp), PE (LamX.lamCx X X.A.in1.in1 X.stack s H (fun _ _ _ => False) scope f c') body (tEv X.K yN te))
    (hfo : ∃ (pm ctv : Value), fo = kla_obj "<lambda>" (X.env.qual ++ "<lambda>") params body scope (cloFrom X.env.cells scope.names []) pm c' ctv) (hfP : (f, fo) ∈ P0) (hco : H0 c' = some (LamX.CodeO c' (X.env.qual ++ "<lambda>")))
    (re : RepE X.K yN Z ph0 H0 σ env) (ks : keysAll te env i m kds) (hkS : FpS X P0 kS) (hne : a ≠ kS) (hn : kds.length ≤ 1000) {j : Nat} {x : Value} (hx : ∃ t, x = .int (j : Int) t) (hj : j < kds.length) (K : KAt X P0 σ Z m ph0 H0 a kS e1 kds j s) :
    wpAny (model X.prog X.w) X.A.in1.in1 (call (.ref f) [x]) (fun k s1 => ∃ (kA : Array Value) (e : Nat), s1.heap.get? kS = some (seqObj "list" kA e) ∧ kA.size ≤ 1000 ∧ ∀ tk, KAt X P0 σ Z m ph0 H0 a kS e1 kds (j + 1) { s1 with heap := s1.heap.update kS (Obj.mapSeq (·.push k)), toks := tk }) (fun _ _ => False) s := by
  obtain ⟨ph, H, kA, e, kv, I, sx, wd, vk, rk⟩ := K.ex
  obtain ⟨t, rfl⟩ := hx
  obtain ⟨pm, ctv, efo⟩ := hfo
  have hf : s.heap.get? f = some fo := (I.pin (f, fo) (List.mem_append_right _ (List.mem_cons_of_mem _ (List.mem_cons_of_mem _ hfP)))).1
  have hl : LmAt X H s.heap p params body scope f c' := ⟨⟨pm, ctv, by rw [hf, efo]⟩, sx.ft _ _ hco .codeO⟩
  have hd0 : kds[j]? = some kds[j] := List.getElem?_eq_getElem hj
  obtain ⟨ek, pk⟩ := ks j _ hd0
  have rv : RelV (.int (j : Int)) (Value.int (j : Int) t) := ⟨t, rfl⟩
  refine wpAny_mono (lm_call (tb := tEv X.K yN te) (Q := fun v H' => ∃ ph', Sx ph H ph' H' ∧ Wd X.K Z ph' m H' ∧ RepV X.K Z ph' H' v kds[j]) I L hl hb hd hr hN hi rv (hbody s H) ?_) (fun k s1 hq => ?_) fun _ _ z => z
  · refine ⟨Z, ph, env.set i (some (.int (j : Int))), m, ((re.mono sx).set (.int _) i (yN_off i)), wd, ?_⟩
    rw [ek]
    exact fun ph' H' s' w' u r' => ⟨ph', s', w', r'⟩
  · obtain ⟨v, H', I1, r1, ph', s', w', r'⟩ := hq
    have pkS := i_pinH I1
    have hs : kA.size ≤ 1000 := by
      have h1 := vk.length
      have h2 := rk.len
      rw [List.length_take] at h2
      have h3 : kA.toList.length = kA.size := Array.length_toList
      have h4 : kv.length = kA.toList.length := h1
      omega
    refine ⟨kA, e, pkS.1, hs, fun tk => ?_⟩
    have up := Heap.SameBut.update s1.heap kS (Obj.mapSeq (·.push k))
    refine ⟨⟨ph', H', kA.push k, _, kv ++ [v], i_pinU I1 (hkS.cons hne) (fun c u hc q => (up.2 c hc).trans q) (get?_update_seq pkS.1 (·.push k)) (fun _ q => by cases q), sx.trans s', w', ?_, ?_⟩⟩
    · rw [Array.toList_push]
      exact vk.append (.cons r1 .nil)
    · rw [List.take_add_one, hd0]
      exact (rk.mono s').append (.cons r' .nil)
end
section
variable {X : Cx} {pins P0 : List (Addr × Obj)} {σ : L2.St} {H H0 : Hp} {s : Shared} {scope : Scope} {p : Str}
theorem keysOk_ok {kds : List D} (h : keysOk kds = true) : AllAlike (kds.map toP) ∧ Sortable (kds.map toP) ∧ (∀ d ∈ kds, pure_ d = true) ∧ ∀ d ∈ kds.map toP, d.depth ≤ 3 := by
  unfold keysOk at h
  rcases Bool.or_eq_true_iff.mp h with h | h
  · have h : ∀ d ∈ kds, ∃ i, d = .int i := fun d hd => by
      have := List.all_eq_true.mp h d hd
      cases d <;> first | exact ⟨_, rfl⟩ | cases this
    have hp : ∀ d ∈ kds.map toP, ∃ i, d = .int i := fun d hd => by
      obtain ⟨q, hq, rfl⟩ := List.mem_map.mp hd
      obtain ⟨i, rfl⟩ := h q hq
      exact ⟨i, rfl⟩
    refine ⟨fun d hd d' hd' => ?_, .inr fun d hd => ?_, fun d hd => ?_, fun d hd => ?_⟩
    · obtain ⟨i, rfl⟩ := hp d hd
      obtain ⟨j, rfl⟩ := hp d' hd'
      rfl
    · obtain ⟨i, rfl⟩ := hp d hd
      exact ⟨fun e => (by cases e), fun xs e => (by cases e)⟩
    · obtain ⟨i, rfl⟩ := h d hd
      rfl
    · obtain ⟨i, rfl⟩ := hp d hd
      simp [PyData.depth]
  · have h : ∀ d ∈ kds, ∃ i j, d = .tup [.int i, .int j] := fun d hd => by
      have := List.all_eq_true.mp h d hd
      match d, this with
      | .tup [.int i, .int j], _ => exact ⟨i, j, rfl⟩
    have hp : ∀ d ∈ kds.map toP, ∃ i j, d = .tuple [.int i, .int j] := fun d hd => by
      obtain ⟨q, hq, rfl⟩ := List.mem_map.mp hd
      obtain ⟨i, j, rfl⟩ := h q hq
      exact ⟨i, j, rfl⟩
    refine ⟨fun d hd d' hd' => ?_, .inl fun d hd => ?_, fun d hd => ?_, fun d hd => ?_⟩
    · obtain ⟨i, j, rfl⟩ := hp d hd
      obtain ⟨i', j', rfl⟩ := hp d' hd'
      rfl
    · obtain ⟨i, j, rfl⟩ := hp d hd
      exact ⟨_, _, rfl⟩
    · obtain ⟨i, j, rfl⟩ := h d hd
      rfl
    · obtain ⟨i, j, rfl⟩ := hp d hd
      simp [PyData.depth, PyData.depthAll]
theorem each_ints : ∀ {vs : List Value} {is : List Nat}, EachIs (fun v (i : Nat) => ∃ t, v = Value.int (i : Int) t) vs is → Vals (is.map fun (i : Nat) => V.int (i : Int)) vs
  | _, _, .nil => .nil
  | _, _, .cons ⟨t, e⟩ r => .cons ⟨t, e⟩ (each_ints r)
theorem rep_ints {K : PySem.W.Frag} {Z : Addr → Prop} {ph : List Addr} : ∀ (is : List Nat), RepVs K Z ph H (is.map fun (i : Nat) => V.int (i : Int)) (is.map fun (i : Nat) => D.int (i : Int))
  | [] => .nil
  | i :: r => .cons (.int _) (rep_ints r)
theorem range_keys (kds : List D) : (List.range kds.length).map (fun i => toP (kds.getD i .non)) = kds.map toP := by
  apply List.ext_getElem?
  intro i
  rw [List.getElem?_map, List.getElem?_map]
  by_cases h : i < kds.length
  · rw [List.getElem?_range h, List.getElem?_eq_getElem h]
    simp [h]
  · rw [List.getElem?_eq_none (by simpa using h), List.getElem?_eq_none (by omega)]
    rfl
theorem key_sort {Z : Addr → Prop} {m : M} {ph0 : List Addr} {a f c' : Addr} {i n0 : Nat} {kds : List D} {params : Arguments} {body : Expr} {fo : Obj} {te : RE} {env : Env} {E : Value → Shared → Prop} {Q : VK} {vs : List Value}
    (L : LmS X.env.scope scope p) (hb : lamBinds params body scope p) (hd : X.A.handled = none) (hr : X.A.depth < recursionLimit) (hu : X.A.units + 64 < cLine) (hN : X.N.Nodup) (hi : X.N[i]? = some p)
    (hbody : ∀ (s : Shared) (H : Hp), PE (LamX.lamCx X X.A.in1.in1 X.stack s H (fun _ _ _ => False) scope f c') body (tEv X.K yN te))
    (hfo : ∃ (pm ctv : Value), fo = kla_obj "<lambda>" (X.env.qual ++ "<lambda>") params body scope (cloFrom X.env.cells scope.names []) pm c' ctv) (hfP : (f, fo) ∈ P0) (hco : H0 c' = some (LamX.CodeO c' (X.env.qual ++ "<lambda>")))
    (re : RepE X.K yN Z ph0 H0 σ env) (wd : Wd X.K Z ph0 m H0) (ks : ∀ (j : Nat) (d : D), kds[j]? = some d → te (env.set i (some (.int (j : Int)))) m = .ok d m) (ok : keysOk kds = true) (hn : kds.length ≤ 1000)
    (I : Inv X P0 σ H0 s) (ha : FpS X P0 a) (na : H0 a = none) (ea : s.heap.get? a = some (seqObj "list" vs.toArray n0)) (hvs : EachIs (fun v (i : Nat) => ∃ t, v = Value.int (i : Int) t) vs (List.range kds.length)) (q : NP X.K Z ph0 H0 m (sortKeyD kds) Q) :
    wpAny (model X.prog X.w) X.A.in1.in1 (ksk_tree a (.ref f) false) (fun fin s' => fin = .done (.ret .none) ∧ ∃ v H', Inv X P0 σ H' s' ∧ v = V.ref a ∧ Q v H') E s := by
  obtain ⟨al, so, pu, de⟩ := keysOk_ok ok
  have hlen : vs.length = kds.length := by rw [hvs.length, List.length_range]
  have ksA : keysAll te env i m kds := fun j d hj => ⟨ks j d hj, pu d (List.mem_of_getElem? hj)⟩
  obtain ⟨e1, ea1⟩ : ∃ e1, (s.heap.update a (Obj.mapSeq fun _ => (#[] : Array Value))).get? a = some (seqObj "list" #[] e1) := ⟨_, get?_update_seq ea fun _ => #[]⟩
  have up := Heap.SameBut.update s.heap a (Obj.mapSeq fun _ => (#[] : Array Value))
  have I1 : Inv X P0 σ H0 { s with heap := s.heap.update a (Obj.mapSeq fun _ => (#[] : Array Value)) } := I.turnedL (t' := s.toks) (ch := [a]) (fun c u hc z => (up.2 c (by simpa using hc)).trans z) fun c hc => by rw [List.mem_singleton.mp hc]; exact ha.ok na
  have hz : vs.length ≤ sizeLine := by rw [hlen, sizeLine_eq]; omega
  unfold ksk_tree
  refine wpAny_bind (listItems_at ea rfl ?_)
  refine wpAny_bind (listUpdate_at ea rfl ?_ (by rw [List.size_toArray]; exact hz) (Nat.zero_le _))
  refine wpAny_bind (seqEpoch_at ea1 rfl ?_)
  refine wpAny_bind (wpAny_newTuple ?_ hz)
  refine wpAny_bind (wpAny_newList ?_ (Nat.zero_le _))
  refine wpAny_holding ?_
  generalize hg : (s.heap.update a (Obj.mapSeq fun _ => (#[] : Array Value))).push (seqObj "tuple" vs.toArray 0) = g
  show wpAny _ _ (ksk_rest a (.ref f) false vs.toArray e1 (.ref g.objs.size)) _ _ { s with heap := g.push (seqObj "list" #[] 0) }
  have kp : ∀ c u, (s.heap.update a (Obj.mapSeq fun _ => (#[] : Array Value))).get? c = some u → g.get? c = some u := fun c u z => by rw [← hg]; exact Heap.get?_push_of_some _ z
  have I2 : Inv X P0 σ H0 { s with heap := g } := I1.kept (t' := s.toks) kp
  have nk : H0 g.objs.size = none := I2.hok.fresh (Nat.le_refl _)
  have hkS : FpS X P0 g.objs.size := .of (I2.fpOk (Nat.le_refl _) nk)
  have hne : a ≠ g.objs.size := Nat.ne_of_lt (Heap.lt_size (kp _ _ ea1))
  have I3 : Inv X P0 σ H0 { s with heap := g.push (seqObj "list" #[] 0) } := I2.kept (t' := s.toks) fun c u z => Heap.get?_push_of_some _ z
  have I4 := i_pinC (i_pinC I3 ha na (o := seqObj "list" #[] e1) (Heap.get?_push_of_some _ (kp _ _ ea1)) (fun _ z => by cases z)) (hkS.cons hne) nk (o := seqObj "list" #[] 0) (Heap.get?_push_size _ rfl) (fun _ z => by cases z)
  have K0 : KAt X P0 σ Z m ph0 H0 a g.objs.size e1 kds 0 { s with heap := g.push (seqObj "list" #[] 0) } := ⟨⟨ph0, H0, #[], 0, [], I4, Sx.refl, wd, .nil, by rw [List.take_zero]; exact .nil⟩⟩
  generalize g.objs.size = kS at *
  unfold ksk_rest
  refine wpAny_bind (wpAny_rule ?_)
  first
    | rw [List.forIn_toArray]
    | (rw [← Array.forIn_toList]; simp only [List.toList_toArray])
    | rw [← Array.forIn_toList]
  refine wpAny_bind (ksk_fold (fun j s' => KAt X P0 σ Z m ph0 H0 a kS e1 kds j s') vs 0 _ K0 (fun j x s' hx K => ?_) (fun s' K => ?_))
  · simp only [Nat.zero_add] at K ⊢
    have hj : j < kds.length := by rw [← hlen]; exact (List.getElem?_eq_some_iff.mp hx).1
    have hxi : ∃ t, x = Value.int (j : Int) t := hvs.zip (x, j) (List.mem_of_getElem? (i := j) (by rw [List.getElem?_zip_eq_some]; exact ⟨hx, List.getElem?_range hj⟩))
    refine wpAny_bind (wpAny_attempt (wpAny_mono (key_turn (E := E) (n := 0) L hb hd hr hN hi hbody hfo hfP hco re ksA hkS hne hn hxi hj K) (fun k s1 hq => ?_) fun _ _ z => z.elim))
    obtain ⟨kA, e, h1, h2, h3⟩ := hq
    try dsimp only
    refine wpAny_bind (listUpdate_at h1 rfl ?_ (by rw [sizeLine_eq]; omega) (by rw [Array.size_push, sizeLine_eq]; omega))
    exact wpAny_pure ⟨rfl, h3 s1.toks⟩
  · obtain ⟨ph, H, kA, e, kv, J, sx, w', vk, rk⟩ := K.ex
    rw [Nat.zero_add, List.take_of_length_le (by omega)] at rk
    have pk := i_pinH J
    have pa := i_pinH (i_unpinC J)
    have er := rep_reads J vk rk pu
    have hsz : kA.size = vs.length := by
      have q1 : kA.toList.length = kA.size := Array.length_toList
      have q2 := vk.length
      have q3 := rk.len
      omega
    try dsimp only
    refine wpAny_bind (listItems_at pk.1 rfl ?_)
    refine keyH_end (κ := dataKind s'.heap (kds.map toP)) (h₁ := lessAt s'.heap kS) (fun c u hc z => ?_) lessAt_none pk.1 pa.1 hne.symm (SortsAt.data (s := s') er al so fun d hd' => ?_) hsz hz fun h3 tk3 c k3 n3 => ?_
    · have hck : c ≠ kS := fun hq => by rw [hq, lessAt_none] at z; cases z
      rw [lessAt_keep hck] at z
      exact z
    · have := de d hd'
      show X.A.units + 1 + 1 + d.depth < cLine
      omega
    · have ko : KeyedOut false (kds.map toP) vs (sortVals (dataKind s'.heap (kds.map toP)) false kA.toList vs) := ⟨s'.heap, kA.toList, al, rfl, er⟩
      rw [← range_keys] at ko
      have eo := keyedOut_each (fun i => toP (kds.getD i .non)) ko hvs
      rw [range_keys] at eo
      have ho := each_ints eo
      have na' : H a = none := pa.2
      have Iend : Inv X P0 σ (upd H a (.lst (((List.range kds.length).mergeSort (dataLe false fun i => toP (kds.getD i .non))).map fun (i : Nat) => V.int (i : Int)))) { s' with heap := h3, toks := tk3 } := i_ours (i_unpinC (i_unpinC J)) ha hkS na' pk.2 (fun c u h1 h2 z => k3 c u h1 (by rw [lessAt_keep h2]; exact z)) n3 ho (by
        rw [List.length_map, List.length_mergeSort, List.length_range, sizeLine_eq]; omega)
      have np : a ∉ ph := fun z => by
        obtain ⟨o, hh⟩ := w'.there z
        rw [na'] at hh; cases hh
      have s2 : Sx ph0 H0 ph (upd H a (.lst (((List.range kds.length).mergeSort (dataLe false fun i => toP (kds.getD i .non))).map fun (i : Nat) => V.int (i : Int)))) := sx.trans (Sx.upd na')
      exact ⟨rfl, _, _, Iend, rfl, q ph _ a _ na upd_same np s2 (w'.newZ na') ((rep_ints _))⟩
end
/-! ## the lambda is made -/
/-- the heap behind the making: it is the old one, or the table is longer and a code object is new -/
def MadeH (H H1 : Hp) (q : Str) : Prop := H1 = H ∨ ∃ (P c : Addr) (ps more : Array Value), H P = some (.tbl ps) ∧ H c = none ∧ H1 = upd (upd H P (.tbl (ps ++ more))) c (LamX.CodeO c q)
theorem MadeH.sx {H H1 : Hp} {q : Str} {ph : List Addr} (h : MadeH H H1 q) (t : LamX.Tabs TabT.T H → LamX.Tabs TabT.T H1) : Sx ph H ph H1 := by
  rcases h with rfl | ⟨P, c, ps, more, hP, hc, rfl⟩
  · exact Sx.refl
  · have at_ : ∀ b o, H b = some o → (∀ qs, o ≠ .tbl qs) → upd (upd H P (.tbl (ps ++ more))) c (LamX.CodeO c q) b = some o := fun b o e n => by
      rw [upd_ne (ne_of_none e hc), upd_ne (fun z => n ps (by rw [z, hP] at e; exact (Option.some.inj e).symm))]
      exact e
    refine ⟨⟨[], by simp⟩, fun a ha => .inl ha, fun a o e _ n => at_ a o e n, fun a o e n => at_ a o e n.t, fun a o e => ?_, fun a us e => ⟨us, at_ a _ e fun _ z => by cases z⟩, fun a C dx fs e => ⟨fs, at_ a _ e fun _ z => by cases z⟩, fun a us e => ⟨us, at_ a _ e fun _ z => by cases z⟩, t⟩
    rw [upd_ne (ne_of_none e hc)]
    by_cases hb : a = P
    · rw [hb, upd_same]; exact ⟨_, rfl⟩
    · rw [upd_ne hb]; exact ⟨o, e⟩
theorem MadeH.wd {H H1 : Hp} {q : Str} {K : PySem.W.Frag} {Z : Addr → Prop} {ph : List Addr} {m : M} (h : MadeH H H1 q) (t : LamX.Tabs TabT.T H → LamX.Tabs TabT.T H1) (w : Wd K Z ph m H) : Wd K Z ph m H1 := by
  refine w.mono (h.sx t) fun a o ha e => ?_
  have nt : ∀ qs, o ≠ .tbl qs := by
    obtain ⟨l, hl⟩ := List.getElem?_of_mem ha
    have hlt : l < m.length := by rw [← w.len]; exact (List.getElem?_eq_some_iff.mp hl).1
    obtain ⟨b, o', e1, e2, r⟩ := w.mo (List.getElem?_eq_getElem hlt)
    rw [hl] at e1
    cases e1
    rw [e] at e2
    cases e2
    intro qs z
    subst z
    generalize m[l] = u at r
    cases u <;> simp [MoR] at r
  rcases h with rfl | ⟨P, c, ps, more, hP, hc, rfl⟩
  · exact e
  · rw [upd_ne (ne_of_none e hc), upd_ne (fun z => nt ps (by rw [z, hP] at e; exact (Option.some.inj e).symm))]
    exact e
section
variable {X : Cx} {pins : List (Addr × Obj)} {σ : L2.St} {H : Hp} {s : Shared} {scope : Scope} {p : Str}
theorem lm_make {params : Arguments} {body : Expr} {pos : Pos} {E : Value → Shared → Prop} {Q : Value → Shared → Prop} (I : Inv X pins σ H s) (lk : LamK X) (hT : LamX.Tabs TabT.T H) (hdef : defaultsOf params X.env = ([], [])) (hfree : ∀ y ∈ scope.names, y.2 = .free → ∃ c, X.env.cells.lookup y.1 = some c)
    (h : ∀ (f c' : Addr) (pm ctv : Value) (H1 : Hp) (s' : Shared), Inv X pins σ H1 s' → MadeH H H1 (X.env.qual ++ "<lambda>") → LamX.Tabs TabT.T H1 → s'.heap.get? f = some (kla_obj "<lambda>" (X.env.qual ++ "<lambda>") params body scope (cloFrom X.env.cells scope.names []) pm c' ctv) →
      H1 f = none → FpS X pins f → f ∉ frs X.stack → H1 c' = some (LamX.CodeO c' (X.env.qual ++ "<lambda>")) → Q (.ref f) s') : wpAny (model X.prog X.w) X.A (eval (.Lambda params body scope pos) X.env) Q E s := by
  obtain ⟨c, P, hcode, TB, hm, hu⟩ := lk.ex
  obtain ⟨ps, hP, ht, hamong⟩ := hT _ hm
  have hP' : s.heap.get? P = some { cls := .none, data := .fields ps } := I.hok P _ hP
  have newfr : ∀ f, s.heap.objs.size ≤ f → f ∉ frs X.stack := by
    intro f hf z
    rcases List.mem_cons.mp (I.stkSub _ z) with e | e
    · exact absurd (Nat.lt_of_lt_of_le I.lt hf) (by rw [e]; exact Nat.lt_irrefl _)
    · exact I.nofs hf e
  refine kla_eval hdef ?_
  cases hc : codeAmong pos ps.toList with
  | some cv =>
    obtain ⟨c', rfl, hco⟩ := hamong pos cv hc
    refine kla_makeFunctionHit (mg := X.mg) (c := c) (P := P) (ps := ps) (closure_ok hfree) I.ok.glob (I.mod.glob.keeps I.bk) hcode (TB.code.keeps I.bk) hP' ht hc (TB.bm.keeps I.bk) fun ctv h' tk hx hsz => ?_
    have I1 : Inv X pins σ H { s with heap := h'.push (kla_obj "<lambda>" (X.env.qual ++ "<lambda>") params body scope (cloFrom X.env.cells scope.names []) ((X.mg "__name__").getD .none) c' ctv), toks := tk } := I.kept fun b o e => Heap.get?_push_of_some _ (hx b o e)
    exact h _ c' _ ctv H _ I1 (.inl rfl) hT (Heap.get?_push_size _ rfl) (I.hok.fresh hsz) (.of (I.fpOk hsz (I.hok.fresh hsz))) (newfr _ hsz) hco
  | none =>
    refine kla_makeFunction (mg := X.mg) (c := c) (P := P) (ps := ps) (closure_ok hfree) I.ok.glob (I.mod.glob.keeps I.bk) hcode (TB.code.keeps I.bk) hP' ht hc TB.gP (TB.bm.keeps I.bk) fun c' ctv h' tk hx hge hlt hrec htb => ?_
    obtain ⟨c2, oc, vs, t, e2, hoc, hd, hv⟩ := hrec
    cases e2
    have hsz : s.heap.objs.size ≤ h'.objs.size := Nat.le_trans hge (Nat.le_of_lt hlt)
    have nC : H c' = none := I.hok.fresh hge
    have I1 := LamX.inv_table (t' := tk) (more := #[rawInt pos.line, rawInt pos.col, .ref c']) (h' := h'.push (kla_obj "<lambda>" (X.env.qual ++ "<lambda>") params body scope (cloFrom X.env.cells scope.names []) ((X.mg "__name__").getD .none) c' ctv)) (q := X.env.qual ++ "<lambda>") I hP
      (fun b o hb e => Heap.get?_push_of_some _ (hx b o hb e)) (Heap.get?_push_of_some _ htb) hge ⟨oc, vs, t, Heap.get?_push_of_some _ hoc, hd, hv⟩
    have tl : (ps ++ #[rawInt pos.line, rawInt pos.col, .ref c']).toList = ps.toList ++ [rawInt pos.line, rawInt pos.col, .ref c'] := by simp
    have keepC : ∀ {b o}, H b = some o → (∀ qs, o ≠ .tbl qs) → upd (upd H P (.tbl (ps ++ #[rawInt pos.line, rawInt pos.col, .ref c']))) c' (LamX.CodeO c' (X.env.qual ++ "<lambda>")) b = some o := fun {b o} e n => by
      rw [upd_ne (ne_of_none e nC), upd_ne (fun z => n ps (by rw [z, hP] at e; exact (Option.some.inj e).symm))]
      exact e
    refine h h'.objs.size c' _ ctv _ _ I1 (.inr ⟨P, c', ps, _, hP, nC, rfl⟩) (fun q hq => ?_) (Heap.get?_push_size _ rfl) ?_ (.of (I.fpOk hsz (I.hok.fresh hsz))) (newfr _ hsz) upd_same
    · by_cases hb : q.1 = P
      · refine ⟨ps ++ #[rawInt pos.line, rawInt pos.col, .ref c'], by rw [hb, upd_ne (ne_of_none hP nC), upd_same], by rw [tl]; exact PySem.TriplesOk_snoc _ _ _ _ ht, fun p' cv hcv => ?_⟩
        rw [hu q hq hb]
        rw [tl] at hcv
        rcases LamX.among_app _ ht hcv with z | z
        · obtain ⟨c0, e1, e2⟩ := hamong p' cv z
          exact ⟨c0, e1, keepC e2 LamX.codeO_ne⟩
        · exact ⟨c', z, upd_same⟩
      · obtain ⟨ps', a1, a2, a3⟩ := hT q hq
        refine ⟨ps', by rw [upd_ne (ne_of_none a1 nC), upd_ne hb]; exact a1, a2, fun p' cv hcv => ?_⟩
        obtain ⟨c0, e1, e2⟩ := a3 p' cv hcv
        exact ⟨c0, e1, keepC e2 LamX.codeO_ne⟩
    · rw [upd_ne (Nat.ne_of_gt hlt), upd_ne (Nat.ne_of_gt (Nat.lt_of_lt_of_le (Heap.lt_size hP') hsz))]
      exact I.hok.fresh hsz
end
end Pv

namespace Pv
open PySem PySem.Spec PyProof.Rows PySem.W L2
variable [TabT]
section
variable {X : Cx} {a : Expr} {ta : TE}
/-- range(n), a thing that is tracked -/
def tRngT (ta : TE) : TE := fun σ H Q => ta σ H fun x H1 => ∃ n, x = .int n ∧ ∀ q, H1 q = none → Q (.ref q) (upd H1 q (.rng 0 n))
theorem pe_rng {p pos : Pos} (hg : Gl X "range") (hm : X.mg "range" = none) (ha : PE X a ta) (na : starEach [a] X.env = (false, eval a X.env) :: starEach [] X.env := by rfl) : PE X (.Call (.Name "range" p) [a] [] pos) (tRngT ta) := by
  refine ⟨fun pins s σ H Q I h => ?_⟩
  refine Call_ (ld_blt I hg hm boot_range (PyProof.Rows.callWith_type1 (one_arg ha I h (fun v s2 x H2 I2 r q => ?_) na) na))
  obtain ⟨n, rfl, q⟩ := q
  obtain ⟨t, rfl⟩ := r
  exact call_range_1 ⟨.ref s2.heap.objs.size, upd H2 s2.heap.objs.size (.rng 0 n), I2.laid (t' := s2.toks + 1 + 1) (fun b o e => Heap.get?_push_of_some _ e) (Nat.le_refl _) ⟨s2.toks, t, s2.toks + 1, Heap.get?_push_size _ rfl⟩, rfl, q _ (I2.hok.fresh (Nat.le_refl _))⟩
theorem args_sortedK (v u : Value) : argsOk "sorted" ⟨[v], [(("key" : Str), u)]⟩ := by unfold argsOk; kernel_rfl
theorem args_listsortK (v u : Value) : argsOk "list.sort" ⟨[v], [(("key" : Str), u)]⟩ := by unfold argsOk; kernel_rfl
theorem each_at {α β : Type} {R : α → β → Prop} : ∀ (l : List α) (g : List β), l.length = g.length → (∀ (j : Nat) u v, l[j]? = some u → g[j]? = some v → R u v) → EachIs R l g
  | [], [], _, _ => .nil
  | [], _ :: _, h, _ => by cases h
  | _ :: _, [], h, _ => by cases h
  | x :: l, y :: g, h, k => .cons (k 0 x y rfl rfl) (each_at l g (by simpa using h) fun j u v a b => k (j + 1) u v a b)
theorem range_each {acc : Array Value} {n : Nat} (h : ItemsOf (fun i v => ∃ t, v = .int (0 + i * 1) t) acc n) : EachIs (fun v (i : Nat) => ∃ t, v = Value.int (i : Int) t) acc.toList (List.range n) := by
  refine each_at _ _ (by rw [Array.length_toList, List.length_range]; exact h.1) fun j u v a b => ?_
  obtain ⟨hj, rfl⟩ := List.getElem?_eq_some_iff.mp b
  obtain ⟨t, e⟩ := h.2 j u (by rw [← a, Array.getElem?_toList])
  refine ⟨t, ?_⟩
  rw [e, List.getElem_range]
  congr 1
  omega
theorem keysM_ok {rk : RE} {env : Env} {i : Nat} {m : M} (hk : ∀ e d m', rk e m = .ok d m' → m' = m) : ∀ {n : Nat} {ds : List D}, keysM rk env i m n = some ds → ds.length = n ∧ ∀ (j : Nat) (d : D), ds[j]? = some d → rk (env.set i (some (.int (j : Int)))) m = .ok d m := by
  intro n
  induction n with
  | zero =>
    intro ds h
    cases h
    exact ⟨rfl, fun j d e => by simp at e⟩
  | succ n ih =>
    intro ds h
    simp only [keysM, Option.bind_eq_some_iff] at h
    obtain ⟨ds', h1, h2⟩ := h
    obtain ⟨l, k⟩ := ih h1
    split at h2
    · rename_i d m' e
      cases h2
      refine ⟨by simp [l], fun j x hx => ?_⟩
      by_cases hj : j < ds'.length
      · rw [List.getElem?_append_left hj] at hx
        exact k j x hx
      · have : j = ds'.length := by
          have := (List.getElem?_eq_some_iff.mp hx).1
          simp at this
          omega
        subst this
        rw [List.getElem?_append_right (Nat.le_refl _)] at hx
        simp at hx
        subst hx
        rw [l, e, hk _ _ _ e]
    · cases h2
def rSortK_ (i : Nat) (ra rk : RE) : RE := fun env m => (ra env m).bind fun x m => .of ((sortKM rk env i m x).map .lst) m
variable {y_ : Yc} {ra rk : RE} {params : Arguments} {body : Expr} {scope : Scope} {i : Nat} {x : Str} {p p' pos pos' lpos kpos : Pos}
theorem n_sortK (lk : LamK X) (hdef : defaultsOf params X.env = ([], [])) (L : LmS X.env.scope scope x) (hb : lamBinds params body scope x) (hc : X.calm = true) (hr : X.A.depth < recursionLimit) (hu : X.A.units + 64 < cLine) (hN : X.N.Nodup) (hi : X.N[i]? = some x)
    (hg : Gl X "sorted") (hm : X.mg "sorted" = none) (hg' : Gl X "range") (hm' : X.mg "range" = none) (ha : PE X a (tEv X.K y_ ra)) (na : starEach [a] X.env = (false, eval a X.env) :: starEach [] X.env)
    (hk : ∀ e m d m', rk e m = .ok d m' → m' = m)
    (hbody : ∀ (s : Shared) (H : Hp) (f c' : Addr), PE (LamX.lamCx X X.A.in1.in1 X.stack s H (fun _ _ _ => False) scope f c') body (tEv X.K yN rk)) :
    PE X (.Call (.Name "sorted" p) [.Call (.Name "range" p') [a] [] pos'] [⟨some "key", .Lambda params body scope lpos, kpos⟩] pos) (tEvN X.K y_ (rSortK_ i ra rk)) := by
  refine ⟨fun pins s σ H Q I ⟨Z, ph, env, m, re, wd, q⟩ => ?_⟩
  have hd := I.ok.hd hc
  refine wpAny_Call_Name_kw (ld_blt I hg hm boot_sorted ?_)
  refine PyProof.Rows.callWith_kw (one_arg (R := fun v H1 => ∃ m1 ph1 n q, Sx ph H ph1 H1 ∧ Wd X.K Z ph1 m1 H1 ∧ v = V.ref q ∧ H1 q = some (.rng 0 n) ∧ q ∉ ph1 ∧ ∃ ds, sortKM rk env i m1 (.int n) = some ds ∧ NP X.K Z ph1 H1 m1 ds Q) (pe_rng hg' hm' ha na) I ?_ (fun v s2 xv H2 I2 r q => ?_) rfl) rfl rfl rfl rfl
  · unfold rSortK_ at q
    refine ⟨Z, ph, env, m, re, wd, ?_⟩
    generalize ra env m = o at q
    cases o with
    | no => exact q.elim
    | ex x m => exact q
    | ok d m1 =>
      have q : FinN X.K y_ Z ph H σ (Rz.of ((sortKM rk env i m1 d).map .lst) m1) Q := q
      intro ph1 H1 s1 w1 u ru
      cases e : sortKM rk env i m1 d with
      | none => rw [e] at q; exact q.elim
      | some ds =>
        rw [e] at q
        obtain ⟨ds', e', np⟩ := q
        cases e'
        cases d with
        | int n =>
          cases ru
          refine ⟨n, rfl, fun q hq => ⟨m1, ph1, n, q, s1.trans (Sx.upd hq), w1.new hq, rfl, upd_same, (fun z => by
            obtain ⟨o, z⟩ := w1.there z
            rw [hq] at z; cases z), ds, e, np.after (s1.trans (Sx.upd hq))⟩⟩
        | _ => cases e
  · obtain ⟨m1, ph1, n, rq, s1, w1, rfl, hrng, hnp, ds, hds, np⟩ := q
    obtain rfl : v = .ref rq := r
    refine PyProof.Rows.kws_cons (lm_make I2 lk w1.tb hdef (L.has I.ok) fun f c' pm ctv H3 s3 I3 mh t3 hf nf fp ffr hco => PyProof.Rows.kws_nil ?_)
    have sx3 : Sx ph1 H2 ph1 H3 := mh.sx fun _ => t3
    have w3 : Wd X.K Z ph1 m1 H3 := mh.wd (fun _ => t3) w1
    have hrng3 : H3 rq = some (.rng 0 n) := sx3.fr _ _ hrng hnp fun _ e => by cases e
    obtain ⟨t, u, v, hrg⟩ := I3.hok rq _ hrng3
    simp only [sortKM] at hds
    split at hds
    · rename_i hn
      simp only [Bool.and_eq_true, decide_eq_true_eq] at hn
      simp only [Option.bind_eq_some_iff] at hds
      obtain ⟨kds, hkd, hds⟩ := hds
      split at hds
      · rename_i ok
        cases hds
        obtain ⟨hl, ks⟩ := keysM_ok (hk · m1) hkd
        have hnn : n = (kds.length : Int) := by rw [hl]; omega
        show wpAny _ _ (call (.builtin "sorted") [.ref rq] [(("key" : Str), .ref f)]) _ _ s3
        refine call_function_entry_kw kind_sorted plain_sorted entry_sorted (args_sortedK _ _) ?_
        unfold Builtin.«sorted»
        refine wpAny_bind (m := checkCount "sorted" 1 1 _) (wpAny_pure ?_)
        refine wpAny_bind (collect_range (n := kds.length) hd hrg (small_one (by decide) (by decide) (by omega) (by omega)) (by rw [rangeSize_one]; split <;> omega) (by omega) fun h' tk acc keep hacc => ?_)
        have hsz : acc.toList.length = kds.length := by rw [Array.length_toList]; exact hacc.1
        refine wpAny_bind (wpAny_newList ?_ (by rw [hsz, sizeLine_eq]; omega))
        have I4 : Inv X pins σ H3 { s3 with heap := h', toks := tk } := I3.kept keep
        have I5 : Inv X ((f, kla_obj "<lambda>" (X.env.qual ++ "<lambda>") params body scope (cloFrom X.env.cells scope.names []) pm c' ctv) :: pins) σ H3 { s3 with heap := h'.push (seqObj "list" acc.toList.toArray 0), toks := tk } :=
          i_pinC (I4.kept (t' := tk) fun b o e => Heap.get?_push_of_some _ e) fp nf (Heap.get?_push_of_some _ (keep _ _ hf)) (fun v z => by cases z)
        have na3 : H3 h'.objs.size = none := I4.hok.fresh (Nat.le_refl _)
        have fa : FpS X pins h'.objs.size := .of (I4.fpOk (Nat.le_refl _) na3)
        refine wpAny_bind (wpAny_holding (wpAny_call_entry_kw slot_list_sort ⟨_, Heap.get?_push_size _ rfl, rfl⟩ entry_list_sort ?_ (args_listsortK _ _)))
        have key := key_sort (Q := Q) (E := X.xe) (f := f) (c' := c') (te := rk) (env := env) (Z := Z) (ph0 := ph1) (m := m1) (kds := kds) (vs := acc.toList) (n0 := 0) L hb hd hr hu hN hi (fun s H => hbody s H f c') ⟨_, _, rfl⟩ List.mem_cons_self hco
          ((re.plain (y' := yN) rfl).mono (s1.trans sx3)) w3 ks ok (by omega) I5 (fa.cons (Nat.ne_of_lt (Heap.lt_size (keep _ _ hf)))) na3 (Heap.get?_push_size _ rfl) (range_each hacc) (np.after sx3)
        refine wpAny_mono key (fun fin s' hq => ?_) fun _ _ z => z
        obtain ⟨rfl, v, H', J, rfl, hq⟩ := hq
        exact ⟨_, rfl, wpAny_pure ⟨_, rfl, .ref h'.objs.size, H', i_unpinC J, rfl, hq⟩⟩
      · cases hds
    · cases hds
end
end Pv

namespace Pv
open PySem PySem.Spec PyProof.Rows PySem.W L2
variable [TabT]
section
variable {X : Cx} {pins : List (Addr × Obj)} {σ : L2.St} {H : Hp} {s : Shared} {scope : Scope} {p : Str}
/-- f(u), around A; all that is not tracked stays -/
theorem lm_callA {A : Around} {params : Arguments} {body : Expr} {f c' : Addr} {i : Nat} {v : V} {u : Value} {tb : TE} {Q : VK} (I : Inv X pins σ H s) (e0 : Env0 X.prog X.w X.K X.mg X.base A X.stack s H) (L : LmS X.env.scope scope p) (hl : LmAt X H s.heap p params body scope f c') (hb : lamBinds params body scope p) (hd : A.handled = none) (hr : A.depth < recursionLimit) (hN : X.N.Nodup) (hi : X.N[i]? = some p) (r : RelV v u)
    (hbody : PE (LamX.lamCx X A X.stack s H (fun _ _ _ => False) scope f c') body tb) (h : tb (σ.set i (some v)) H Q) :
    wpAny (model X.prog X.w) A (call (.ref f) [u]) (fun w s' => ∃ z H', Inv X pins σ H' s' ∧ RelV z w ∧ Q z H' ∧ ∀ b o, s.heap.get? b = some o → H b = none → b ∉ frs X.stack → s'.heap.get? b = some o ∧ H' b = none) (fun _ _ => False) s := by
  obtain ⟨pm, ctv, hf⟩ := hl.ex
  obtain ⟨⟨oc, vs, t, q1, q2, q3⟩, _, _⟩ := I.hok c' _ hl.co
  have rc : codeAny (model X.prog X.w) A (.call (.ref f) ⟨[u], []⟩) (CR (L2.CX X.prog X.w) X.stack X.prog X.w H s Q (fun _ _ _ => False)) s := by
    refine kla_callFunE hr hf rfl L.co L.ge rfl ⟨c', oc, vs, t, rfl, q1, q2, q3⟩ ?_
    rw [hb]
    refine wpAny_pure (wpAny_newFunctionEnv (fun y hy => (L.ow y hy).1) (fun y hy => ?_) (fun h₁ hns hsb => ⟨I.nolimit.fresh _ hsb, ?_⟩) L.kd)
    · rw [List.mem_singleton.mp hy]; exact L.pa
    show codeAny _ _ (.expr body (LamX.lamEnv X scope s.heap.objs.size f c')) _ _
    have kp : ∀ b o, s.heap.get? b = some o → h₁.get? b = some o := fun b o e => hsb.extBut b o (Nat.ne_of_lt (Heap.lt_size e)) (Heap.get?_push_of_some _ e)
    have J := lm_start (E := fun _ _ _ => False) (f := f) (c' := c') (tk := s.toks + ([(p, u)] : List (Str × Value)).length) I L e0 hd hN hi r hns kp
    refine kla_codeExpr (wpAny_mono (hbody.run [] _ _ H Q J h) (fun w s' hq => ?_) fun e s' hq => hq)
    obtain ⟨w', H', J', rv, q⟩ := hq
    exact ⟨w', H', J'.os, J'.bare, J'.base, J'.hok, rv, q⟩
  refine wpAny_call (codeAny_mono rc fun res s' hq => ?_)
  cases res with
  | error e =>
    obtain ⟨_, _, _, _, _, _, _, _, _, _, _, _, z⟩ := hq
    exact z.elim
  | ok fl =>
    cases fl with
    | ret w =>
      obtain ⟨v, H', os, bare, un, hok, r, q⟩ := hq
      obtain ⟨hh, g, d, t, os'⟩ := s'
      obtain rfl : os' = s.os := os
      exact ⟨v, H', I.call (h' := hh) (g' := g) (d' := d) (t' := t) (ch := []) un hok bare (fun b z => absurd z (by simp)), r, q, fun b o e n nf => ⟨un.keep b o e n nf (by simp), un.free b o e n (by simp)⟩⟩
    | next => exact hq.elim
    | brk => exact hq.elim
    | cont => exact hq.elim
end
theorem minKs_ok {rk : RE} {env : Env} {i : Nat} {m : M} : ∀ {ds : List D} {ns : List Int}, minKs rk env i m ds = some ns → ns.length = ds.length ∧ ∀ (j : Nat) (d : D), ds[j]? = some d → rk (env.set i (some d)) m = .ok (.int (ns.getD j 0)) m
  | [], ns, h => by cases h; exact ⟨rfl, fun j d e => by simp at e⟩
  | d :: ds, ns, h => by
    simp only [minKs] at h
    obtain ⟨n, h1, h⟩ := Option.bind_eq_some_iff.mp h
    obtain ⟨ns', h2, h⟩ := Option.bind_eq_some_iff.mp h
    cases h
    obtain ⟨l, k⟩ := minKs_ok h2
    refine ⟨by simp [l], fun j x e => ?_⟩
    cases j with
    | succ j => exact k j x (by simpa using e)
    | zero =>
      simp at e
      subst e
      split at h1
      · rename_i n' m' e
        split at h1
        · rename_i em
          cases h1
          rw [e, em]; rfl
        · cases h1
      · cases h1
theorem vals_tups {K : PySem.W.Frag} {Z : Addr → Prop} {ph : List Addr} {H : Hp} : ∀ {vs : List V} {ds : List D} {us us' : List Value}, RepVs K Z ph H vs ds → ds.all isTupD = true → Vals vs us → Vals vs us' → us' = us
  | _, _, _, _, .nil, _, .nil, .nil => rfl
  | _, _, _, _, .cons r rs, h, .cons a as, .cons b bs => by
    simp only [List.all_cons, Bool.and_eq_true] at h
    rw [vals_tups rs h.2 as bs]
    rename_i v d vs ds u us u' us'
    cases r <;> simp only [isTupD] at h <;> first | (exact absurd h.1 (by decide)) | skip
    obtain rfl : u = _ := a
    obtain rfl : u' = _ := b
    rfl
def rMinK_ (i : Nat) (ra rk : RE) : RE := fun env m => (ra env m).bind fun x m => .of (minKM rk env i m x) m
section
variable {X : Cx} {a : Expr} {y_ : Yc} {ra rk : RE} {params : Arguments} {body : Expr} {scope : Scope} {i : Nat} {x : Str} {p pos lpos kpos : Pos}
theorem n_minK (lk : LamK X) (hdef : defaultsOf params X.env = ([], [])) (L : LmS X.env.scope scope x) (hb : lamBinds params body scope x) (hc : X.calm = true) (hr : X.A.depth < recursionLimit) (hN : X.N.Nodup) (hi : X.N[i]? = some x)
    (hg : Gl X "min") (hm : X.mg "min" = none) (ha : PE X a (tEv X.K y_ ra)) (na : starEach [a] X.env = (false, eval a X.env) :: starEach [] X.env)
    (hbody : ∀ (s : Shared) (H : Hp) (f c' : Addr), PE (LamX.lamCx X X.A.in1 X.stack s H (fun _ _ _ => False) scope f c') body (tEv X.K yN rk)) :
    PE X (.Call (.Name "min" p) [a] [⟨some "key", .Lambda params body scope lpos, kpos⟩] pos) (tEv X.K y_ (rMinK_ i ra rk)) := by
  refine ⟨fun pins s σ H Q I ⟨Z, ph, env, m, re, wd, q⟩ => ?_⟩
  have hd := I.ok.hd hc
  refine wpAny_Call_Name_kw (ld_blt I hg hm boot_min ?_)
  refine PyProof.Rows.callWith_kw (one_arg (R := fun v H1 => ∃ m1 ph1 d z, Sx ph H ph1 H1 ∧ Wd X.K Z ph1 m1 H1 ∧ RepV X.K Z ph1 H1 v d ∧ minKM rk env i m1 d = some z ∧ PV X.K Z ph1 H1 m1 z Q) ha I ?_ (fun v s2 xv H2 I2 r q => ?_) na) (by rw [na]; rfl) (by rw [na]; rfl) rfl rfl
  · unfold rMinK_ at q
    exact ev_bind re wd q fun d m1 ph1 H1 v s1 w1 re1 r1 q => by
      obtain ⟨z, hz, qz⟩ := q.pv
      exact ⟨m1, ph1, d, z, s1, w1, r1, hz, qz⟩
  · obtain ⟨m1, ph1, d, z, s1, w1, rd, hz, qz⟩ := q
    cases d <;> simp only [minKM] at hz <;> try (cases hz; done)
    rename_i ds
    split at hz
    · rename_i hck
      simp only [Bool.and_eq_true, decide_eq_true_eq] at hck
      obtain ⟨hlen, htup⟩ := hck
      obtain ⟨ns, hns, hz⟩ := Option.bind_eq_some_iff.mp hz
      obtain ⟨hnl, hk⟩ := minKs_ok hns
      cases rd with
      | lst ha2 hap haz rvs =>
        rename_i l vs
        obtain rfl : v = .ref l := r
        refine PyProof.Rows.kws_cons (lm_make I2 lk w1.tb hdef (L.has I.ok) fun f c' pm ctv H3 s3 I3 mh t3 hf nf fp ffr hco => PyProof.Rows.kws_nil ?_)
        have sx3 : Sx ph1 H2 ph1 H3 := mh.sx fun _ => t3
        have w3 : Wd X.K Z ph1 m1 H3 := mh.wd (fun _ => t3) w1
        have ha3 : H3 l = some (.lst vs) := sx3.fr _ _ ha2 hap .lst
        obtain ⟨hz1, its, n0, rv3, el⟩ := I3.hok l _ ha3
        have rvs3 := rvs.mono sx3
        have hits : its.length = ds.length := by rw [← rv3.length, rvs.len]
        have re3 : RepE X.K yN Z ph1 H3 σ env := (re.plain (y' := yN) rfl).mono (s1.trans sx3)
        show wpAny _ _ (call (.builtin "min") [.ref l] [(("key" : Str), .ref f)]) _ _ s3
        have hIl : s3.heap.IsList l its.toArray := ⟨_, el, rfl, n0, rfl⟩
        have hfs : f < s3.heap.objs.size := Heap.lt_size hf
        refine call_min_walkK (iter_listW (A := X.A.in1) hd hIl fun s₂ e2 W st hfp hw hkp => ?_)
        have eS : s₂.heap.objs.size = s3.heap.objs.size + 1 := by rw [e2]; exact Heap.size_push ..
        have I2' : Inv X pins σ H3 s₂ := by rw [e2]; exact I3.kept (t' := s3.toks) fun b o e => Heap.get?_push_of_some _ e
        have fI : FpS X pins s3.heap.objs.size := .of (I3.fpOk (Nat.le_refl _) (I3.hok.fresh (Nat.le_refl _)))
        have fS : FpS X pins s₂.heap.objs.size := .of (I3.fpOk (by omega) (I3.hok.fresh (by omega)))
        have nfr : ∀ b, FpS X pins b → b ∉ frs X.stack := fun b h z => by
          rcases List.mem_cons.mp (I3.stkSub _ z) with e | e
          · exact h.1 e
          · exact h.2.1 e
        have hfI : f ≠ s3.heap.objs.size := Nat.ne_of_lt hfs
        have hfS : f ≠ s₂.heap.objs.size := Nat.ne_of_lt (by rw [eS]; exact Nat.lt_succ_of_lt hfs)
        refine ⟨_, _, _, _, _, _, _, fun s' => ∃ ph' H', Inv X pins σ H' s' ∧ Sx ph1 H3 ph' H' ∧ Wd X.K Z ph' m1 H' ∧ H' s3.heap.objs.size = none ∧ H' s₂.heap.objs.size = none ∧ H' f = none ∧ s'.heap.get? f = some (kla_obj "<lambda>" (X.env.qual ++ "<lambda>") params body scope (cloFrom X.env.cells scope.names []) pm c' ctv),
          fun j k _ => ∃ t, k = .int (ns.getD j 0) t, fun a b => decide (ns.getD a 0 < ns.getD b 0), rfl, W, st, hfp, by rw [List.size_toArray, hits]; exact hlen, ⟨?_, fun i k s s' h _ => h, ?_, ?_⟩, ?_, fun v s' hP hJ => ?_⟩
        · rintro s s' ⟨ph', H', J, sx, wd', nI, nS, nF, hf'⟩ mv
          obtain ⟨hp, g, dr, tk, os⟩ := s'
          have h1 : g = s.gens := mv.gens
          have h2 : dr = s.drawn := mv.drawn
          have h3 : os = s.os := mv.os
          subst h1 h2 h3
          refine ⟨ph', H', J.turnedL (t' := tk) (ch := [s₂.heap.objs.size, s3.heap.objs.size]) (fun b o hb e => mv.heap b o hb e) (fun b hb => ?_), sx, wd', nI, nS, nF, mv.heap _ _ (fun hb => ?_) hf'⟩
          · rcases List.mem_cons.mp hb with rfl | hb
            · exact fS.ok nS
            · rw [List.mem_singleton.mp hb]; exact fI.ok nI
          · rcases List.mem_cons.mp hb with e | hb
            · exact hfS e
            · exact hfI (List.mem_singleton.mp hb)
        · rintro j u s o Q' E' hj hu ⟨ph', H', J, sx, wd', nI, nS, nF, hf'⟩ ⟨⟨oI, hoI, oc, od⟩, hls⟩ hS k
          rw [List.size_toArray] at hj
          have hjd : j < ds.length := by rw [← hits]; exact hj
          have hu : its[j]? = some u := by simpa using hu
          have hd0 : ds[j]? = some ds[j] := List.getElem?_eq_getElem hjd
          obtain ⟨vj, hvj, rj⟩ := rvs3.get hd0
          have ru : RelV vj u := by
            obtain ⟨u', hu', r'⟩ := rv3.get hvj
            rw [hu] at hu'
            cases hu'
            exact r'
          refine wpAny_mono (lm_callA (tb := tEv X.K yN rk) (Q := fun z H'' => ∃ ph'', Sx ph' H' ph'' H'' ∧ Wd X.K Z ph'' m1 H'' ∧ RepV X.K Z ph'' H'' z (.int (ns.getD j 0))) J J.env0.in1 L ⟨⟨pm, ctv, hf'⟩, sx.ft _ _ hco .codeO⟩ hb hd hr hN hi ru (hbody s H' f c') ?_) (fun w s'' hq => ?_) fun _ _ z => z.elim
          · refine ⟨Z, ph', env.set i (some ds[j]), m1, (re3.mono sx).set (rj.mono sx) i (yN_off i), wd', ?_⟩
            rw [hk j _ hd0]
            exact fun ph'' H'' s' w' u r' => ⟨ph'', s', w', r'⟩
          · obtain ⟨zv, H'', J', rz, ⟨ph'', sx', wd'', rep⟩, un⟩ := hq
            cases rep
            obtain ⟨t, rfl⟩ := rz
            obtain ⟨gS, nS'⟩ := un _ _ hS nS (nfr _ fS)
            obtain ⟨gI, nI'⟩ := un _ _ hoI nI (nfr _ fI)
            obtain ⟨gF, nF'⟩ := un _ _ hf' nF ffr
            refine k _ _ ⟨ph'', H'', J', sx.trans sx', wd'', nI', nS', nF', gF⟩ ⟨⟨oI, gI, oc, od⟩, ?_⟩ gS ⟨t, rfl⟩ fun _ _ h => h
            have hl'' : H'' l = some (.lst vs) := (sx.trans sx').fr _ _ ha3 hap .lst
            obtain ⟨_, its', n', rv', el'⟩ := J'.hok l _ hl''
            rw [← vals_tups rvs htup rv3 rv']
            exact ⟨_, el', rfl, n', rfl⟩
        · rintro i j ki kj s Q' E' _ h1 h2 hq
          exact CmpOf.ints_lt (prog := X.prog) (w := X.w) (A := X.A.in1) (P := fun i v => ∃ t, v = .int (ns.getD i 0) t) (fun i => ns.getD i 0) (fun i v h => h) i j _ _ _ _ _ h1 h2 hq
        · exact ⟨ph1, H3, I2', Sx.refl, w3, I3.hok.fresh (Nat.le_refl _), I3.hok.fresh (by omega), nf, hkp _ _ hf⟩
        · obtain ⟨ph', H', J, sx, wd', _⟩ := hJ
          have hv : its[minBest ns]? = some v := by
            have e : its.toArray.size - 1 = ns.length - 1 := by rw [List.size_toArray, hits, hnl]
            rw [e] at hP
            simpa [minBest] using hP
          obtain ⟨vj, hvj, rj⟩ := rvs3.get hz
          have ru : RelV vj v := by
            obtain ⟨u', hu', r'⟩ := rv3.get hvj
            rw [hv] at hu'
            cases hu'
            exact r'
          exact ⟨vj, H', J, ru, qz ph' H' vj (sx3.trans sx) wd' (rj.mono sx)⟩
    · cases hz
end
end Pv

namespace Pv
open PySem PySem.Spec PyProof.Rows L2
variable [TabT]

abbrev RS := Env → M → R
def FlQ (K : PySem.W.Frag) (y : Yc) (Z : Addr → Prop) (ph : List Addr) (H : Hp) (E : Ends) (fl : Fl) (env' : Env) (m' : M) : Prop :=
  ∀ ph' H' σ', Sx ph H ph' H' → Wd K Z ph' m' H' → RepE K y Z ph' H' σ' env' → match fl with
    | .nx => E.nx σ' H'
    | .bk => E.bk σ' H'
    | .ct => E.ct σ' H'
    | .rt d => ∀ v, RepV K Z ph' H' v d → E.rt v H'
    | .xc x => ∀ cls dd, RepX K Z ph' H' cls dd x → y.W cls dd σ' H'
def FinS (K : PySem.W.Frag) (y : Yc) (Z : Addr → Prop) (ph : List Addr) (H : Hp) (o : R) (E : Ends) : Prop := match o with
  | none => False
  | some r => FlQ K y Z ph H E r.1 r.2.1 r.2.2
def tEvS (K : PySem.W.Frag) (y : Yc) (r : RS) : TS := fun E σ H => ∃ Z ph env m, RepE K y Z ph H σ env ∧ Wd K Z ph m H ∧ FinS K y Z ph H (r env m) E
section
variable {α : Type} {K : PySem.W.Frag} {y : Yc} {Z : Addr → Prop} {ph ph1 : List Addr} {H H1 : Hp} {m m' : M} {env env' : Env} {σ : L2.St} {E : Ends} {fl : Fl} {P : α → M → List Addr → Hp → Prop}
theorem FlQ.after (q : FlQ K y Z ph H E fl env' m') (s : Sx ph H ph1 H1) : FlQ K y Z ph1 H1 E fl env' m' := fun ph' H' σ' s' w r => q ph' H' σ' (s.trans s') w r
theorem FinS.after {o : R} (q : FinS K y Z ph H o E) (s : Sx ph H ph1 H1) : FinS K y Z ph1 H1 o E := by
  cases o with
  | none => exact q
  | some r => exact FlQ.after (show FlQ K y Z ph H E r.1 r.2.1 r.2.2 from q) s
/-- an expression, then the statement's end -/
theorem FinS.st {r : Rz α} {f : α → M → R} (q : FinS K y Z ph H (r.st env f) E) (re : RepE K y Z ph H σ env) (k : ∀ a m1 ph1 H1, Sx ph H ph1 H1 → Wd K Z ph1 m1 H1 → FinS K y Z ph1 H1 (f a m1) E → P a m1 ph1 H1) : FinG K y Z ph H σ r P := by
  cases r with
  | no => exact q
  | ok a m => exact fun ph1 H1 s1 w1 => k a m ph1 H1 s1 w1 (FinS.after (show FinS K y Z ph H (f a m) E from q) s1)
  | ex x m => exact fun ph' H' cls d s w r => q ph' H' σ s w (re.mono s) cls d r
theorem es_bind {r : RE} {R : VK} {f : D → M → Pv.R} (re : RepE K y Z ph H σ env) (wd : Wd K Z ph m H) (q : FinS K y Z ph H ((r env m).st env f) E)
    (k : ∀ d m1 ph1 H1 v, Sx ph H ph1 H1 → Wd K Z ph1 m1 H1 → RepE K y Z ph1 H1 σ env → RepV K Z ph1 H1 v d → FinS K y Z ph1 H1 (f d m1) E → R v H1) : tEv K y r σ H R :=
  ⟨Z, ph, env, m, re, wd, q.st re fun d m1 ph1 H1 s w q1 u r => k d m1 ph1 H1 u s w (re.mono s) r q1⟩
theorem est_bind {r : RE} {R : Bool → Hp → Prop} {f : D → M → Pv.R} (re : RepE K y Z ph H σ env) (wd : Wd K Z ph m H) (q : FinS K y Z ph H ((r env m).st env f) E) (hb : ∀ d m1, (∀ b, d ≠ .bl b) → f d m1 = none)
    (k : ∀ b m1 ph1 H1, Sx ph H ph1 H1 → Wd K Z ph1 m1 H1 → RepE K y Z ph1 H1 σ env → FinS K y Z ph1 H1 (f (.bl b) m1) E → R b H1) : tEvT K y r σ H R :=
  ⟨Z, ph, env, m, re, wd, q.st re fun d m1 ph1 H1 s w q1 => by
    cases d with
    | bl b => exact ⟨b, rfl, k b m1 ph1 H1 s w (re.mono s) q1⟩
    | _ => rw [hb _ _ (fun b e => by cases e)] at q1; exact q1.elim⟩
theorem FinS.map {β : Type} {o : Option β} {g : β → Fl × Env × M} (q : FinS K y Z ph H (o.map g) E) : ∃ b, o = some b ∧ FlQ K y Z ph H E (g b).1 (g b).2.1 (g b).2.2 := by
  cases o with
  | none => exact q.elim
  | some b => exact ⟨b, rfl, q⟩
end
section
variable {X : Cx} {y_ : Yc} {x y w : Expr} {pos p : Pos} {ra rb rc : RE} {rs rt : RS}
def rAsg_ (t : Tg) (ra : RE) : RS := fun env m => (ra env m).st env fun d m => (bindTg m t d env).map fun e => (.nx, e, m)
theorem asg_read {K : PySem.W.Frag} {t : Tg} {ra : RE} (E : Ends) (σ : L2.St) (H : Hp) (h : tEvS K y_ (rAsg_ t ra) E σ H) : tAsg (tEv K y_ ra) (gT K y_ t) E σ H := by
  obtain ⟨Z, ph, env, m, re, wd, q⟩ := h
  exact es_bind re wd q fun d m1 ph1 H1 v s1 w1 re1 r1 q => by
    obtain ⟨e1, h2, q⟩ := q.map
    exact ⟨Z, ph1, env, m1, d, _, re1, w1, r1, h2, fun σ' re' _ => q ph1 H1 σ' Sx.refl w1 re'⟩
theorem s_asg {tg : Expr} {t : Tg} (he : PE X x (tEv X.K y_ ra)) (hg : PG X tg (gT X.K y_ t)) (hs : swapsWithSole [tg] x pos.line X.env = pure false) (hw : swappedStores [tg] x X.env = pure none) (h1 : (assignEach [tg] X.env).map (·.2) = [assign tg X.env]) :
    PS X (.Assign [tg] x pos) (tEvS X.K y_ (rAsg_ t ra)) := ps_imp (ps_asg he hg hs hw h1) asg_read
/-- name = a new list that a comprehension makes: the list as a value, as a mutable thing -/
theorem setN_read {K : PySem.W.Frag} {i : Nat} {r : RE} {te : TE} (ho : y_.off i) (hn : ∀ σ H Q, tEvN K y_ r σ H Q → te σ H Q) (hr : ∀ env m d m', r env m = .ok d m' → ∃ ds, d = .lst ds) (E : Ends) (σ : L2.St) (H : Hp) (h : tEvS K y_ (rAsg_ (.nm i) r) E σ H) : tAsg te (gName i) E σ H := by
  obtain ⟨Z, ph, env, m, re, wd, q⟩ := h
  refine hn _ _ _ ⟨Z, ph, env, m, re, wd, ?_⟩
  unfold rAsg_ at q
  cases e : r env m with
  | no => rw [e] at q; exact q
  | ex x m1 => rw [e] at q; exact fun ph' H' cls d s w r => q ph' H' σ s w (re.mono s) cls d r
  | ok d m1 =>
    rw [e] at q
    obtain ⟨ds, rfl⟩ := hr env m d m1 e
    exact ⟨ds, rfl, PV.np wd fun ph' H' u s w' r' => q ph' H' _ s w' ((re.mono s).set r' i ho)⟩
theorem setB_read {K : PySem.W.Frag} {i : Nat} {r : RE} {te : TE} (ho : y_.off i) (hn : ∀ σ H Q, tEvN K y_ r σ H Q → te σ H Q) (E : Ends) (σ : L2.St) (H : Hp) (h : tEvS K y_ (rAsg_ (.nm i) (rBox_ r)) E σ H) : tAsg te (gName i) E σ H := by
  obtain ⟨Z, ph, env, m, re, wd, q⟩ := h
  refine hn _ _ _ ⟨Z, ph, env, m, re, wd, ?_⟩
  unfold rAsg_ rBox_ at q
  cases e : r env m with
  | no => rw [e] at q; exact q
  | ex x m1 => rw [e] at q; exact fun ph' H' cls d s w r => q ph' H' σ s w (re.mono s) cls d r
  | ok d m1 =>
    rw [e] at q
    cases d with
    | lst ds =>
      refine ⟨ds, rfl, fun ph' H' a vs hn ha hna s w r => ?_⟩
      exact q (ph' ++ [a]) H' _ (s.snoc hn) (w.box ha hna r) ((re.mono (s.snoc hn)).set (.ref (by rw [← w.len]; simp) ⟨vs, ha⟩) i ho)
    | _ => exact q.elim
def rSetix_ (ro ri ra : RE) : RS := fun env m => (ra env m).st env fun v m => (ro env m).st env fun x m => (ri env m).st env fun y m => (setM m v x y).map fun m => (.nx, env, m)
/-- o[i] = v of a list, of a dict -/
theorem PSet.or {t t' : TSet} (h : PSet X t) (h' : PSet X t') : PSet X (fun o i v H Q => t o i v H Q ∨ t' o i v H Q) := fun pins s σ H o i v ov iv u Q I r1 r2 r3 w => w.elim (h pins s σ H o i v ov iv u Q I r1 r2 r3) (h' pins s σ H o i v ov iv u Q I r1 r2 r3)
theorem set_dic (hu : X.A.units + 64 < cLine) : PSet X (fun o i v H Q => ∃ a H', o = .ref a ∧ DPut H a i v H' ∧ Q H') := fun pins s σ H o i v ov iv u Q I r1 r2 r3 ⟨a, H', ea, g, q⟩ => by
  subst ea
  obtain rfl : ov = Value.ref a := r1
  exact d_setItem (by omega) I g r2 r3 fun s' I' => ⟨H', I', q⟩
theorem s_setix {o i : Expr} {ro ri : RE} (hu : X.A.units + 64 < cLine) (he : PE X x (tEv X.K y_ ra)) (ho : PE X o (tEv X.K y_ ro)) (hi : PE X i (tEv X.K y_ ri)) (hpl : ∀ v, assign (.Subscript o i p) X.env v = (do
      let ov ← holding [v] (eval o X.env)
      let iv ← holding [v, ov] (eval i X.env)
      standAt p
      holding [v, ov, iv] (setItem ov iv v)
      release [v, ov, iv] [])) (hs : swapsWithSole [.Subscript o i p] x pos.line X.env = pure false) : PS X (.Assign [.Subscript o i p] x pos) (tEvS X.K y_ (rSetix_ ro ri ra)) :=
  ps_imp (ps_asg he (pg_sub ho hi (PSet.or set_list (set_dic hu)) hpl) hs rfl rfl) fun E σ H ⟨Z, ph, env, m, re, wd, q⟩ => by
    refine es_bind re wd q fun d m1 ph1 H1 v s1 w1 re1 r1 q => es_bind re1 w1 q fun d2 m2 ph2 H2 u s2 w2 re2 r2 q => es_bind re2 w2 q fun d3 m3 ph3 H3 z s3 w3 re3 r3 q => ?_
    obtain ⟨m4, hz, q⟩ := q.map
    have r1 := (r1.mono s2).mono s3
    have r2 := r2.mono s3
    unfold setM at hz
    split at hz
    · cases r3
      split at hz
      · rename_i xs hx
        split at hz
        · rename_i j hj
          cases hz
          obtain ⟨a, vs0, rfl, ha, _⟩ := first_ref r2
          obtain ⟨vs, g1, g2⟩ := w3.at hx ha
          refine .inl ⟨a, vs, _, j, rfl, rfl, g1, by rw [g2.len]; exact hj, ?_⟩
          exact q ph3 _ σ (Sx.write ha g1) (w3.write ha g1 (g2.set r1 j)) (re3.mono (Sx.write ha g1))
        · cases hz
      · cases hz
    · split at hz
      · rename_i kvs hx
        obtain ⟨k0, hk, hz⟩ := Option.bind_eq_some_iff.mp hz
        split at hz
        · rename_i hlen
          cases hz
          obtain ⟨a, vs0, rfl, ha, _⟩ := first_dic r2
          obtain ⟨vvs, g1, g2⟩ := w3.dat hx ha
          obtain ⟨k', hr, rfl⟩ := key_of_rep r3 hk
          refine .inr ⟨a, _, rfl, DPut.k g1 (by rw [g2.len, sizeLine_eq]; omega), ?_⟩
          exact q ph3 _ σ (Sx.writeD ha g1) (w3.writeG ha (Sx.writeD ha g1) ⟨_, rfl, put_rep hr r1 g2⟩) (re3.mono (Sx.writeD ha g1))
        · cases hz
      · cases hz
    · cases hz
theorem s_ex (he : PE X x (tEv X.K y_ ra)) (hs : swapsWith x none pos.line X.env = pure false) : PS X (.Expr x pos) (tEvS X.K y_ fun env m => (ra env m).st env fun _ m => some (.nx, env, m)) :=
  ps_imp (ps_expr he hs) fun E σ H ⟨Z, ph, env, m, re, wd, q⟩ => es_bind re wd q fun d m1 ph1 H1 v s1 w1 re1 r1 q => q ph1 H1 σ Sx.refl w1 re1
theorem s_ret (he : PE X x (tEv X.K y_ ra)) : PS X (.Return (some x) pos) (tEvS X.K y_ fun env m => (ra env m).st env fun d m => some (.rt d, env, m)) :=
  ps_imp (ps_ret he) fun E σ H ⟨Z, ph, env, m, re, wd, q⟩ => es_bind re wd q fun d m1 ph1 H1 v s1 w1 re1 r1 q => q ph1 H1 σ Sx.refl w1 re1 v r1
theorem s_retN : PS X (.Return none pos) (tEvS X.K y_ fun env m => some (.rt .non, env, m)) :=
  ps_imp ps_retN fun E σ H ⟨Z, ph, env, m, re, wd, q⟩ => q ph H σ Sx.refl wd re _ .non
theorem s_pass : PS X (.Pass pos) (tEvS X.K y_ fun env m => some (.nx, env, m)) :=
  ps_imp ps_pass fun E σ H ⟨Z, ph, env, m, re, wd, q⟩ => q ph H σ Sx.refl wd re
theorem s_brk : PS X (.Break pos) (tEvS X.K y_ fun env m => some (.bk, env, m)) :=
  ps_imp ps_break fun E σ H ⟨Z, ph, env, m, re, wd, q⟩ => q ph H σ Sx.refl wd re
theorem s_cont : PS X (.Continue pos) (tEvS X.K y_ fun env m => some (.ct, env, m)) :=
  ps_imp ps_continue fun E σ H ⟨Z, ph, env, m, re, wd, q⟩ => q ph H σ Sx.refl wd re
def rIfS_ (rc : RE) (rs rt : RS) : RS := fun env m => (rc env m).st env fun x m => match x with
  | .bl true => rs env m
  | .bl false => rt env m
  | _ => none
theorem s_if {a b : List Stmt} (hc : PT X x (tEvT X.K y_ rc)) (ha : PSs X a (tEvS X.K y_ rs)) (hb : PSs X b (tEvS X.K y_ rt)) : PS X (.If x a b pos) (tEvS X.K y_ (rIfS_ rc rs rt)) :=
  ps_imp (ps_if hc ha hb) fun E σ H ⟨Z, ph, env, m, re, wd, q⟩ => est_bind re wd q (fun d m1 h => by cases d with | bl b => exact absurd rfl (h b) | _ => rfl) fun b m1 ph1 H1 s1 w1 re1 q => by
    cases b with
    | true => exact iteT ⟨Z, ph1, env, m1, re1, w1, q⟩
    | false => exact iteF ⟨Z, ph1, env, m1, re1, w1, q⟩
theorem ss_nil : PSs X [] (tEvS X.K y_ fun env m => some (.nx, env, m)) := pss_imp pss_nil fun E σ H ⟨Z, ph, env, m, re, wd, q⟩ => q ph H σ Sx.refl wd re
def rSeqS_ (rs rt : RS) : RS := fun env m => (rs env m).bind fun r => match r.1 with
  | .nx => rt r.2.1 r.2.2
  | _ => some r
theorem ss_cons {st : Stmt} {rest : List Stmt} (h : PS X st (tEvS X.K y_ rs)) (h2 : PSs X rest (tEvS X.K y_ rt)) : PSs X (st :: rest) (tEvS X.K y_ (rSeqS_ rs rt)) :=
  pss_imp (pss_cons h h2) fun E σ H ⟨Z, ph, env, m, re, wd, q⟩ => by
    unfold rSeqS_ at q
    cases e : rs env m with
    | none => rw [e] at q; exact q.elim
    | some r =>
      obtain ⟨fl1, env1, m1⟩ := r
      rw [e] at q
      refine ⟨Z, ph, env, m, re, wd, ?_⟩
      rw [e]
      intro ph' H' σ' s w re'
      cases fl1 with
      | nx => exact ⟨Z, ph', env1, m1, re', w, FinS.after q s⟩
      | rt d => exact q ph' H' σ' s w re'
      | bk => exact q ph' H' σ' s w re'
      | ct => exact q ph' H' σ' s w re'
      | xc x => exact q ph' H' σ' s w re'

/-! ### fields; augmented -/
def rSetat_ (ro ra : RE) (c f : Str) : RS := fun env m => (ra env m).st env fun v m => (ro env m).st env fun x m => (setatM m c f v x).map fun m => (.nx, env, m)
theorem s_setat {o : Expr} {ro : RE} {c f : Str} {C : Addr} (k : ClK X.K c C) (na : NoAttr X.K C f) (ho : PE X o (tEv X.K y_ ro)) (he : PE X x (tEv X.K y_ ra)) (hs : swapsWith x (some (.Attribute o f p)) pos.line X.env = pure false) : PS X (.Assign [.Attribute o f p] x pos) (tEvS X.K y_ (rSetat_ ro ra c f)) :=
  ps_imp (ps_fld ho he hs) fun E σ H ⟨Z, ph, env, m, re, wd, q⟩ => by
    refine es_bind re wd q fun d m1 ph1 H1 v s1 w1 re1 r1 q => es_bind re1 w1 q fun d2 m2 ph2 H2 u s2 w2 re2 r2 q => ?_
    obtain ⟨m4, hz, q⟩ := q.map
    cases d2 <;> simp only [setatM] at hz <;> try cases hz
    split at hz
    · rename_i nm fs hm
      split at hz
      · rename_i hc
        obtain ⟨rfl, hl⟩ := hc
        cases hz
        obtain ⟨a, C', dx, fvs, rfl, h1, h2, h3, r⟩ := obj_at w2 r2 hm
        have := ns_one k.at_ h2
        subst this
        exact ⟨a, C, dx, fvs, rfl, h3, k.cls, na, by rw [r.len]; omega, q ph2 _ σ (Sx.writeI h1 h3) (w2.writeG h1 (Sx.writeI h1 h3) ⟨C, dx, _, h2, rfl, fput_rep (r1.mono s2) r⟩) (re2.mono (Sx.writeI h1 h3))⟩
      · cases hz
    · cases hz
def augB : BOp → Operator → Bool
  | .add, .Add => true
  | .sub, .Sub => true
  | .mul, .Mult => true
  | _, _ => false
theorem in_mul : InOp X .Mult (fun x y H Q => ∃ i j, x = .int i ∧ y = .int j ∧ CMul i j ∧ Q (.int (i * j)) H) := fun pins s σ H x y u v Q I r1 r2 ⟨i, j, e1, e2, hc, q⟩ => augR (op := .Mult) iop_mul I r1 r2 ⟨i, j, e1, e2, hc, q⟩
def rAugV (op : BOp) : V → V → Hp → VK → Prop := fun x y H Q => ∃ i j, x = .int i ∧ y = .int j ∧ ∃ z, augD op (.int i) (.int j) = some (.int z) ∧ Q (.int z) H
theorem in_aug {op : BOp} {o : Operator} (h : augB op o = true) : InOp X o (rAugV op) := by
  cases op <;> cases o <;> first | (exact absurd h (by decide)) | skip
  · exact fun pins s σ H x y u v Q I r1 r2 ⟨i, j, e1, e2, z, hz, q⟩ => by
      cases hz
      exact in_add pins s σ H x y u v Q I r1 r2 ⟨i, j, e1, e2, q⟩
  · exact fun pins s σ H x y u v Q I r1 r2 ⟨i, j, e1, e2, z, hz, q⟩ => by
      cases hz
      exact in_sub pins s σ H x y u v Q I r1 r2 ⟨i, j, e1, e2, q⟩
  · exact fun pins s σ H x y u v Q I r1 r2 ⟨i, j, e1, e2, z, hz, q⟩ => by
      simp only [augD] at hz
      split at hz
      · rename_i hk
        cases hz
        simp only [small, Bool.and_eq_true, Bool.or_eq_true, decide_eq_true_eq] at hk
        exact in_mul pins s σ H x y u v Q I r1 r2 ⟨i, j, e1, e2, hk.2.imp id id, q⟩
      · cases hz
theorem augD_int {op : BOp} {a b d : D} (h : augD op a b = some d) : ∃ i j z, a = .int i ∧ b = .int j ∧ d = .int z ∧ augD op (.int i) (.int j) = some (.int z) := by
  cases a <;> cases b <;> simp only [augD] at h <;> try cases h
  rename_i i j
  cases op <;> simp only at h <;> try cases h
  · exact ⟨i, j, _, rfl, rfl, rfl, rfl⟩
  · exact ⟨i, j, _, rfl, rfl, rfl, rfl⟩
  · split at h
    · rename_i hk
      cases h
      exact ⟨i, j, _, rfl, rfl, rfl, by simp only [augD, hk, if_true]⟩
    · cases h
def rAug_ (i : Nat) (op : BOp) (ra : RE) : RS := fun env m => match env[i]? with
  | some (some a) => (ra env m).st env fun b m => (augD op a b).map fun d => (.nx, env.set i (some d), m)
  | _ => none
theorem s_aug {i : Nat} {s : Str} {op : BOp} {o : Operator} (ho : y_.off i) (hb : augB op o = true) (hN : X.N.Nodup) (hi : X.N[i]? = some s) (hx : L2.Loc X.env.scope s) (hf : X.fn s = true ∨ X.env.scope.names.lookup s = some .local) (he : PE X x (tEv X.K y_ ra)) :
    PS X (.AugAssign (.Name s p) o x pos) (tEvS X.K y_ (rAug_ i op ra)) :=
  ps_imp (ps_aug hN hi hx he (in_aug hb) hf) fun E σ H ⟨Z, ph, env, m, re, wd, q⟩ => by
    simp only [rAug_] at q
    split at q
    · rename_i a ha
      obtain ⟨v, h2, r2⟩ := re.at_ i _ ha
      refine ⟨_, h2, es_bind re wd q fun d m1 ph1 H1 u s1 w1 re1 r1 q => ?_⟩
      obtain ⟨z, hz, q⟩ := q.map
      obtain ⟨k, j, z', rfl, rfl, rfl, hz⟩ := augD_int hz
      cases r2
      cases r1
      exact ⟨k, j, rfl, rfl, z', hz, q ph1 H1 _ Sx.refl w1 (re1.set (.int _) i ho)⟩
    · exact q.elim
def rAugat_ (ro ra : RE) (c f : Str) (op : BOp) : RS := fun env m => (ro env m).st env fun x m => match attrM m c f x with
  | some a => (ra env m).st env fun b m => (augD op a b).bind fun d => (setatM m c f d x).map fun m => (.nx, env, m)
  | none => none
theorem s_augat {o : Expr} {ro : RE} {c f : Str} {C : Addr} {op : BOp} {oo : Operator} (hb : augB op oo = true) (k : ClK X.K c C) (na : NoAttr X.K C f) (ho : PE X o (tEv X.K y_ ro)) (he : PE X x (tEv X.K y_ ra)) : PS X (.AugAssign (.Attribute o f p) oo x pos) (tEvS X.K y_ (rAugat_ ro ra c f op)) :=
  ps_imp (ps_fldaug ho he (in_aug hb)) fun E σ H ⟨Z, ph, env, m, re, wd, q⟩ => by
    refine es_bind re wd q fun d m1 ph1 H1 v s1 w1 re1 r1 q => ?_
    cases ha : attrM m1 c f d with
    | none => simp only [ha] at q; exact q.elim
    | some z =>
      simp only [ha] at q
      cases d <;> simp only [attrM] at ha <;> try cases ha
      split at ha
      · rename_i nm fs hm
        split at ha
        · rename_i en
          subst en
          obtain ⟨a, C', dx, fvs, rfl, h1, h2, h3, r⟩ := obj_at w1 r1 hm
          have := ns_one k.at_ h2
          subst this
          obtain ⟨u, h4, r4⟩ := (fget_rep r).1 z ha
          refine ⟨a, C, dx, fvs, u, rfl, h3, k.cls, na, h4, es_bind re1 w1 q fun d2 m2 ph2 H2 w s2 w2 re2 r2 q => ?_⟩
          cases hz : augD op z d2 with
          | none => rw [hz] at q; exact q.elim
          | some d3 =>
            rw [hz] at q
            obtain ⟨m4, hs4, q⟩ := FinS.map (show FinS X.K y_ Z ph2 H2 ((setatM m2 nm f d3 _).map fun m => (.nx, env, m)) E from q)
            obtain ⟨i, j, z', rfl, rfl, rfl, hz⟩ := augD_int hz
            cases r4
            cases r2
            refine ⟨i, j, rfl, rfl, z', hz, ?_⟩
            simp only [setatM] at hs4
            split at hs4
            · rename_i nm' fs' hm'
              split at hs4
              · rename_i hc
                obtain ⟨rfl, hl⟩ := hc
                cases hs4
                obtain ⟨a', C', dx', fvs', ea, g1, g2, g3, r'⟩ := obj_at w2 (r1.mono s2) hm'
                cases ea
                have := ns_one k.at_ g2
                subst this
                exact ⟨dx', fvs', g3, by rw [r'.len]; omega, q ph2 _ σ (Sx.writeI g1 g3) (w2.writeG g1 (Sx.writeI g1 g3) ⟨C, dx', _, g2, rfl, fput_rep (.int _) r'⟩) (re2.mono (Sx.writeI g1 g3))⟩
              · cases hs4
            · cases hs4
        · cases ha
      · cases ha

/-! ### raise -/
theorem zip_rep {K : PySem.W.Frag} {Z : Addr → Prop} {ph : List Addr} {H : Hp} {fs : List Str} {vs : List V} {ds : List D} (r : RepVs K Z ph H vs ds) (h : ds.length = fs.length) : RepFs K Z ph H (fs.zip vs).reverse (mkX fs ds) := by
  have hv : vs.length = fs.length := by rw [r.len]; exact h
  unfold mkX
  refine ⟨?_, ?_⟩
  · rw [List.map_reverse, List.map_reverse, List.map_fst_zip (by omega), List.map_fst_zip (by omega)]
  · rw [List.map_reverse, List.map_reverse, List.map_snd_zip (by omega), List.map_snd_zip (by omega)]
    exact rep_rev r
def rRaise_ (c : Str) (rs : RA) (o : Option (List Str)) : RS := fun env m => (rs env m).st env fun ds m => match o with
  | some fs => if fs.length = ds.length then some (.xc ⟨c, mkX fs ds⟩, env, m) else none
  | none => none
theorem s_raise {C : Addr} {t : XC} {z : Expr} {zs : List Expr} {rs : RA} {cpos : Pos} (hc : X.calm = true) (tk : Takes X y_.W) (T : XcK X.prog X.w X.K X.mg X.base t C) (hr : Room 3 X.A) (hg : Gl X t.nm) (ha : PA X (z :: zs) (tEvA X.K y_ rs)) (hdb : (t.nm == ("__debug__" : Str)) = false)
    (he : starEach (z :: zs) X.env = (false, eval z X.env) :: starEach zs X.env) (hpl : (backTo cpos (starEach zs X.env)).any (·.1) = false) : PS X (.Raise (some (.Call (.Name t.nm p) (z :: zs) [] cpos)) none pos) (tEvS X.K y_ (rRaise_ t.nm rs (some t.fs))) :=
  ps_imp (ps_raise hc tk (pmk_g T hr hg ha hdb he hpl)) fun E σ H ⟨Z, ph, env, m, re, wd, q⟩ => ⟨Z, ph, env, m, re, wd, q.st re fun ds m1 ph1 H1 s1 w1 q vs r1 => by
    simp only at q
    split at q
    · rename_i hl
      refine ⟨by rw [r1.len]; exact hl.symm, fun d hd => ?_⟩
      have s2 : Sx ph1 H1 ph1 (upd H1 d (.xd (t.fs.zip vs).reverse)) := Sx.upd hd
      exact q ph1 _ σ s2 (w1.new hd) ((re.mono s1).mono s2) _ _ ⟨C, d, _, rfl, rfl, T.at_, upd_same, (zip_rep r1 hl.symm).mono s2⟩
    · exact q.elim⟩

/-! ### loops -/
variable {ri : RA} {t : Tg} {body : List Stmt} {tg it : Expr}
theorem for_run {K : PySem.W.Frag} {σ : L2.St} {H1 : Hp} {E : Ends} {Z : Addr → Prop} {ph1 : List Addr} {env env' : Env} {m m' : M} {items : List D} {J : L2.It} {fl : Fl} {t : Tg} {rs : RS}
    (re : RepE K y_ Z ph1 H1 σ env) (wd : Wd K Z ph1 m H1) (yd : Ydl K Z ph1 H1 J items) (e : forL t rs items env m = some (fl, env', m')) (q : FlQ K y_ Z ph1 H1 E fl env' m') :
    ∃ W : Nat → Nat → L2.St → Hp → Prop, (∃ k, W 0 k σ H1) ∧ ∀ i k σ H, W i k σ H →
      (J.stop i H ∧ E.nx σ H) ∨ (J.go i H ∧ ∃ N : L2.St → Hp → Prop, (∀ σ' H', N σ' H' → ∃ k', k' < k ∧ W (i + 1) k' σ' H') ∧ ∀ x H', J.yld i H x H' → gT K y_ t x σ H' fun σ2 H2 => tEvS K y_ rs { E with nx := N, ct := N, bk := E.nx } σ2 H2) := by
  refine ⟨fun i k σ H => k = items.length - i ∧ i ≤ items.length ∧ ∃ ph2 m2 env2, Sx ph1 H1 ph2 H ∧ Wd K Z ph2 m2 H ∧ RepE K y_ Z ph2 H σ env2 ∧ forL t rs (items.drop i) env2 m2 = some (fl, env', m'), ⟨items.length, by simp, Nat.zero_le _, ph1, m, env, Sx.refl, wd, re, by simpa using e⟩, ?_⟩
  rintro i k σ H ⟨rfl, hi, ph2, m2, env2, s2, w2, re2, hg⟩
  by_cases hlt : i < items.length
  · refine .inr ⟨yd.go i ph2 H hlt s2, fun σ H => i + 1 ≤ items.length ∧ ∃ ph2 m2 env2, Sx ph1 H1 ph2 H ∧ Wd K Z ph2 m2 H ∧ RepE K y_ Z ph2 H σ env2 ∧ forL t rs (items.drop (i + 1)) env2 m2 = some (fl, env', m'), fun σ' H' h => ⟨items.length - (i + 1), by omega, rfl, h⟩, fun x H' hy => ?_⟩
    obtain ⟨hg', d, hd, rx⟩ := yd.yld Z i ph2 H x H' (fun a ha => .inl ha) hlt s2 hy
    have s3 : Sx ph2 H ph2 H' := Sx.grow (x := x) hg'
    have w3 : Wd K Z ph2 m2 H' := w2.grow hg'
    have hdr : items.drop i = d :: items.drop (i + 1) := by
      have e2 : items[i] = d := by rw [List.getElem?_eq_getElem hlt] at hd; exact Option.some.inj hd
      rw [List.drop_eq_getElem_cons hlt, e2]
    rw [hdr] at hg
    simp only [forL] at hg
    obtain ⟨e1, b1, hg⟩ := Option.bind_eq_some_iff.mp hg
    obtain ⟨⟨fl1, env1, m1⟩, b2, hg⟩ := Option.bind_eq_some_iff.mp hg
    refine ⟨Z, ph2, env2, m2, d, e1, re2.mono s3, w3, rx, b1, fun σ' re' _ => ⟨Z, ph2, e1, m2, re', w3, ?_⟩⟩
    rw [b2]
    intro ph4 H4 σ4 s4 w4 re4
    cases fl1 with
    | nx => exact ⟨hlt, ph4, m1, env1, (s2.trans s3).trans s4, w4, re4, hg⟩
    | ct => exact ⟨hlt, ph4, m1, env1, (s2.trans s3).trans s4, w4, re4, hg⟩
    | bk => cases hg; exact q ph4 H4 σ4 ((s2.trans s3).trans s4) w4 re4
    | rt d => cases hg; exact q ph4 H4 σ4 ((s2.trans s3).trans s4) w4 re4
    | xc x => cases hg; exact q ph4 H4 σ4 ((s2.trans s3).trans s4) w4 re4
  · have ei : i = items.length := by omega
    subst ei
    rw [List.drop_length] at hg
    simp only [forL] at hg
    cases hg
    exact .inl ⟨yd.stop ph2 H s2, q ph2 H σ s2 w2 re2⟩
theorem s_for (hp : PassesOwn (model X.prog X.w) X.A X.env X.xe) (hc : X.calm = true) (hi : PI X tg it (tEvI X.K y_ ri)) (hg : PG X tg (gT X.K y_ t)) (hb : PSs X body (tEvS X.K y_ rs)) (hs : ∀ v, foldedSetIterable it X.env v = pure v) :
    PS X (.For tg it body [] pos) (tEvS X.K y_ fun env m => (ri env m).st env fun ds m => forL t rs ds env m) :=
  ps_imp (ps_for hp hc hi hg hb hs) fun E σ H ⟨Z, ph, env, m, re, wd, q⟩ => ⟨Z, ph, env, m, re, wd, q.st re fun ds m1 ph1 H1 s1 w1 q J yd => by
    cases e : forL t rs ds env m1 with
    | none => rw [e] at q; exact q.elim
    | some r =>
      rw [e] at q
      exact for_run (re.mono s1) w1 yd e q⟩
theorem s_while (hp : PassesOwn (model X.prog X.w) X.A X.env X.xe) (hc : PT X x (tEvT X.K y_ rc)) (hb : PSs X body (tEvS X.K y_ rs)) : PS X (.While x body [] pos) (tEvS X.K y_ fun env m => whileL rc rs turns env m) :=
  ps_imp (ps_while hp hc hb) fun E σ H ⟨Z, ph, env, m, re, wd, q⟩ => by
    refine ⟨fun k σ2 H2 => ∃ ph2 m2 env2, Sx ph H ph2 H2 ∧ Wd X.K Z ph2 m2 H2 ∧ RepE X.K y_ Z ph2 H2 σ2 env2 ∧ FinS X.K y_ Z ph2 H2 (whileL rc rs k env2 m2) E, ⟨turns, ph, m, env, Sx.refl, wd, re, q⟩, ?_⟩
    rintro k σ2 H2 ⟨ph2, m2, env2, s2, w2, re2, hg⟩
    cases k with
    | zero => exact hg.elim
    | succ k =>
      simp only [whileL] at hg
      refine est_bind re2 w2 hg (fun d m1 h => by cases d with | bl b => exact absurd rfl (h b) | _ => rfl) fun b m3 ph3 H3 s3 w3 re3 hg => ?_
      cases b with
      | false => exact iteF (hg ph3 H3 σ2 Sx.refl w3 re3)
      | true =>
        refine iteT ⟨fun σ' H' => ∃ k', k' < k + 1 ∧ ∃ ph2 m2 env2, Sx ph H ph2 H' ∧ Wd X.K Z ph2 m2 H' ∧ RepE X.K y_ Z ph2 H' σ' env2 ∧ FinS X.K y_ Z ph2 H' (whileL rc rs k' env2 m2) E, fun σ' H' h => h, Z, ph3, env2, m3, re3, w3, ?_⟩
        cases e : rs env2 m3 with
        | none => simp only [e] at hg; exact hg.elim
        | some r =>
          obtain ⟨fl1, env1, m1⟩ := r
          simp only [e] at hg
          intro ph4 H4 σ4 s4 w4 re4
          have hg := FinS.after hg s4
          cases fl1 with
          | nx => exact ⟨k, Nat.lt_succ_self _, ph4, m1, env1, (s2.trans s3).trans s4, w4, re4, hg⟩
          | ct => exact ⟨k, Nat.lt_succ_self _, ph4, m1, env1, (s2.trans s3).trans s4, w4, re4, hg⟩
          | bk => exact hg ph4 H4 σ4 Sx.refl w4 re4
          | rt d => exact hg ph4 H4 σ4 Sx.refl w4 re4
          | xc x => exact hg ph4 H4 σ4 Sx.refl w4 re4
end
end Pv

namespace Pv
open PySem PySem.Spec PyProof.Rows L2
variable [TabT]
/-! ## dict comprehensions -/
section
variable {X : Cx} {x kx it tg : Expr} {scope : Scope} {pos : Pos} {ri : RA} {rx rk : RE} {own : List (Str × Nat)} {t : Tg} {y_ : Yc}
def rDc_ (own : List (Str × Nat)) (t : Tg) (ri : RA) (rk rx : RE) : RE := fun env m => (ri env m).bind fun ds m => if ds.length ≤ lim then (match dcL t (wipeE env (own.map (·.2))) m.length rk rx ds (m ++ [.dct []]) with
  | some m' => .ok (.dic m.length) m'
  | none => .no) else .no
/-- where a dict comprehension stands behind i items -/
structure DAt (K : PySem.W.Frag) (Z : Addr → Prop) (ph1 : List Addr) (H1 : Hp) (go : List D → M → Option M) (items : List D) (m' : M) (i : Nat) (H : Hp) : Prop where
  le : i ≤ items.length
  ex : ∃ ph2 m2, Sx ph1 H1 ph2 H ∧ Wd K Z ph2 m2 H ∧ go (items.drop i) m2 = some m'
theorem dc_read (hin : tgIn (own.map (·.2)) t = true) {K : PySem.W.Frag} (σ : L2.St) (H : Hp) (Q : VK) (h : tEv K y_ (rDc_ own t ri rk rx) σ H Q) : tDc (tEvI K y_ ri) (gT K yN t) tYes (tEv K yN rk) (tEv K yN rx) (own.map (·.2)) σ H Q := by
  obtain ⟨Z, ph, env, m, re, wd, q⟩ := h
  refine ⟨Z, ph, env, m, re, wd, FinG.bind q fun items m1 ph1 H1 s1 w1 q J yd Dl hD => ?_⟩
  split at q
  · rename_i hl
    split at q
    · rename_i m' h2
      have s0 : Sx ph1 H1 (ph1 ++ [Dl]) (upd H1 Dl (.dK [])) := (Sx.upd (o := .dK []) hD).snoc hD
      have w0 : Wd K Z (ph1 ++ [Dl]) (m1 ++ [.dct []]) (upd H1 Dl (.dK [])) := (w1.newZ (o := .dK []) hD).snoc (w1.np hD) (fun _ e => by cases e) (fun _ _ e => by cases e) (fun kvs e => by cases e; exact ⟨[], upd_same, .nil, .nil⟩)
      have at0 : (ph1 ++ [Dl])[m1.length]? = some Dl := by rw [← w1.len]; simp
      have re0 : RepE K yN Z ph1 H1 σ env := (re.mono s1).plain rfl
      refine ⟨fun i k H => k = items.length - i ∧ DAt K Z (ph1 ++ [Dl]) (upd H1 Dl (.dK [])) (dcL t (wipeE env (own.map (·.2))) m1.length rk rx) items m' i H, ⟨items.length, by simp, Nat.zero_le _, _, _, Sx.refl, w0, by simpa using h2⟩, ?_⟩
      rintro i k H ⟨rfl, hi, ph2, m2, s2, w2, hg⟩
      by_cases hlt : i < items.length
      · refine .inr ⟨yd.go i ph2 H hlt (s0.trans s2), DAt K Z (ph1 ++ [Dl]) (upd H1 Dl (.dK [])) (dcL t (wipeE env (own.map (·.2))) m1.length rk rx) items m' (i + 1), fun H' h => ⟨items.length - (i + 1), by omega, rfl, h⟩, fun x H' hy => ?_⟩
        obtain ⟨hg', d, hd, rx'⟩ := yd.yld Z i ph2 H x H' (fun a ha => .inl ha) hlt (s0.trans s2) hy
        have s3 : Sx ph2 H ph2 H' := Sx.grow (x := x) hg'
        have w3 : Wd K Z ph2 m2 H' := w2.grow hg'
        have hdr : items.drop i = d :: items.drop (i + 1) := by
          have e2 : items[i] = d := by rw [List.getElem?_eq_getElem hlt] at hd; exact Option.some.inj hd
          rw [List.drop_eq_getElem_cons hlt, e2]
        rw [hdr] at hg
        simp only [dcL] at hg
        obtain ⟨e1, b1, hg⟩ := Option.bind_eq_some_iff.mp hg
        obtain ⟨kk, b2, hg⟩ := Option.bind_eq_some_iff.mp hg
        obtain ⟨vv, b3, hg⟩ := Option.bind_eq_some_iff.mp hg
        obtain ⟨m5, b4, hg⟩ := Option.bind_eq_some_iff.mp hg
        have re2 : RepE K yN Z ph2 H' (wipe σ (own.map (·.2))) (wipeE env (own.map (·.2))) := (re0.mono ((s0.trans s2).trans s3)).wipe _ fun i _ => yN_off i
        refine ⟨_, ph2, _, m2, d, e1, re2, w3, rx', b1, fun σ' re' hw => ⟨by rw [hw _ hin, wipe_wipe], Z, ph2, e1, m2, re', w3, ?_⟩⟩
        rw [calm_ok b2]
        intro ph4 H4 s4 w4 u ru
        refine ⟨Z, ph4, e1, kk.2, re'.mono s4, w4, ?_⟩
        rw [calm_ok b3]
        intro ph5 H5 s5 w5 v rv
        unfold setM at b4
        simp only at b4
        split at b4
        · rename_i kvs hm
          obtain ⟨k0, hk, b4⟩ := Option.bind_eq_some_iff.mp b4
          split at b4
          · rename_i hz
            cases b4
            obtain ⟨k', hr, rfl⟩ := key_of_rep (ru.mono s5) hk
            have s25 : Sx (ph1 ++ [Dl]) (upd H1 Dl (.dK [])) ph5 H5 := ((s2.trans s3).trans s4).trans s5
            have ha : ph5[m1.length]? = some Dl := s25.at_ at0
            obtain ⟨vvs, e2, r2⟩ := w5.dat hm ha
            refine ⟨vvs, k', rfl, e2, by rw [r2.len, ← lim_eq]; exact Nat.lt_trans hz (by decide), hlt, ph5, _, s25.trans (Sx.writeD ha e2), w5.writeG (u := .dct (kput k0 vv.1 kvs)) ha (Sx.writeD ha e2) ⟨_, rfl, put_rep hr rv r2⟩, hg⟩
          · cases b4
        · cases b4
      · have ei : i = items.length := by omega
        subst ei
        rw [List.drop_length] at hg
        simp only [dcL] at hg
        cases hg
        have ha : ph2[m1.length]? = some Dl := s2.at_ at0
        obtain ⟨vvs, e2⟩ := s2.kd Dl [] upd_same
        exact .inl ⟨yd.stop ph2 H (s0.trans s2), q ph2 H (s0.trans s2) w2 _ (.dic ha ⟨vvs, e2⟩)⟩
    · exact q.elim
  · exact q.elim
theorem n_dcomp (hc : X.calm = true) (hN : X.N.Nodup) (hi : PI X tg it (tEvI X.K y_ ri)) (ok : BlkOk X.N X.env.scope scope own) (hin : tgIn (own.map (·.2)) t = true)
    (hg : ∀ (s : Shared) (H : Hp) (C : Addr) (cl : List (Str × Addr)) (fp : List Addr), PG (X.blk s H scope (compEnvC scope cl C X.env) fp) tg (gT X.K yN t))
    (hk : ∀ (s : Shared) (H : Hp) (C : Addr) (cl : List (Str × Addr)) (fp : List Addr), PE (X.blk s H scope (compEnvC scope cl C X.env) fp) kx (tEv X.K yN rk))
    (he : ∀ (s : Shared) (H : Hp) (C : Addr) (cl : List (Str × Addr)) (fp : List Addr), PE (X.blk s H scope (compEnvC scope cl C X.env) fp) x (tEv X.K yN rx)) (hs : ∀ v, foldedSetIterable it X.env v = pure v) :
    PE X (.DictComp kx x [⟨tg, it, [], 0⟩] scope pos) (tEv X.K y_ (rDc_ own t ri rk rx)) :=
  pe_imp (pe_dc hc hN hi ok hg (fun _ _ _ _ _ => pts_nil) hk he hs) (dc_read hin)

/-! ## xs[::k] -/
variable {e c : Expr} {te tc : TE} {ra rc : RE}
theorem pick_all (items : Array Value) : slicePick items none none (some 1) = items := by
  have := slicePick_cut items.toList none none
  simp only [HT.sIx, List.drop_zero, Nat.sub_zero, List.take_length] at this
  exact this
theorem pe_stp {p3 : Pos} (he : PE X e te) (hc : PE X c tc) : PE X (.Subscript e (.Slice none none (some c) p3) pos) (fun σ H Q => te σ H fun x H1 => tPart tc σ H1 fun o H2 =>
    ∃ a xs, x = .ref a ∧ SqL X.K H2 a xs ∧ ((o = some 1 ∧ ∀ p, H2 p = none → Q (.ref p) (upd H2 p (.lst xs))) ∨ (o = some (-1) ∧ ∀ p, H2 p = none → Q (.ref p) (upd H2 p (.lst xs.reverse))))) := by
  refine ⟨fun pins s σ H Q I h => ?_⟩
  refine Subscript_ (thn (he.run pins s σ H _ I h) fun v s1 ⟨x, H1, I1, r1, q1⟩ => ?_)
  have hst : PO X (some c) (tPart tc) := po_some hc
  refine wpAny_Slice (thn (po_none.run pins s1 σ H1 (fun o H2 => o = none ∧ H2 = H1) I1 ⟨rfl, rfl⟩) fun vl s2 ⟨l, H2, I2, pl, el, e2⟩ => ?_)
  subst el e2
  refine thn (po_none.run pins s2 σ H2 (fun o H3 => o = none ∧ H3 = H2) I2 ⟨rfl, rfl⟩) fun vu s3 ⟨u, H3, I3, pu, eu, e3⟩ => ?_
  subst eu e3
  refine thn (hst.run pins s3 σ H3 _ I3 q1) fun vs s4 ⟨o, H4, I4, ps, a, xs, ex, hx, q⟩ => ?_
  subst ex
  cases r1
  have I5 : Inv X pins σ H4 { s4 with heap := s4.heap.push { cls := .type "slice", data := .fields #[vl, vu, vs] } } := I4.kept (t' := s4.toks) fun b ob q => Heap.get?_push_of_some _ q
  show wpAny (model X.prog X.w) X.A (subscriptTail e (.Slice none none (some c) p3) (.ref a) (.ref s4.heap.objs.size)) (EP X pins σ Q) X.xe { s4 with heap := s4.heap.push { cls := .type "slice", data := .fields #[vl, vu, vs] } }
  obtain ⟨its, r, ht, hz⟩ := I5.list hx
  have hlen := r.length
  rcases q with ⟨eo, q⟩ | ⟨eo, q⟩
  · subst eo
    refine tail_any (ops := [.ref a, .ref s4.heap.objs.size]) ht.isList.typeIs (PySem.slot_list_getitem.lookup) ?_ (by with_unfolding_all rfl)
    refine wpAny_getItem_list_slice ht.isList (Heap.IsSliceOf.new _ vl vu vs) pl pu ps (by decide) ?_ (by rw [List.size_toArray]; omega)
    rw [pick_all]
    refine ⟨.ref _, _, I5.laid (t' := s4.toks) (o := .lst xs) (fun b ob q => Heap.get?_push_of_some _ q) (Nat.le_refl _) ?_, rfl, q _ (I5.hok.fresh (Nat.le_refl _))⟩
    exact ⟨hz, _, 0, r, Heap.get?_push_size _ rfl⟩
  · subst eo
    refine tail_any (ops := [.ref a, .ref s4.heap.objs.size]) ht.isList.typeIs (PySem.slot_list_getitem.lookup) ?_ (by with_unfolding_all rfl)
    refine wpAny_getItem_list_slice ht.isList (Heap.IsSliceOf.new _ vl vu vs) pl pu ps (by decide) ?_ (by rw [List.size_toArray]; omega)
    rw [PySem.W.krv_pick]
    refine ⟨.ref _, _, I5.laid (t' := s4.toks) (o := .lst xs.reverse) (fun b ob q => Heap.get?_push_of_some _ q) (Nat.le_refl _) ?_, rfl, q _ (I5.hok.fresh (Nat.le_refl _))⟩
    exact ⟨by rw [List.length_reverse]; exact hz, _, 0, r.reverse, Heap.get?_push_size _ rfl⟩
def rStp_ (ra rc : RE) : RE := fun env m => (ra env m).bind fun x m => (rc env m).bind fun y m => .of (stpD m x y) m
theorem n_stp {p3 : Pos} (ha : PE X e (tEv X.K y_ ra)) (hc : PE X c (tEv X.K y_ rc)) : PE X (.Subscript e (.Slice none none (some c) p3) pos) (tEv X.K y_ (rStp_ ra rc)) :=
  pe_imp (pe_stp ha hc) fun σ H Q ⟨Z, ph, env, m, re, wd, q⟩ => ev_bind re wd q fun d m1 ph1 H1 v s1 w1 re1 r1 q => ev_bind re1 w1 q fun d2 m2 ph2 H2 w s2 w2 re2 r2 q => by
    obtain ⟨z, h2, qz⟩ := q.pv
    unfold stpD at h2
    split at h2
    · rename_i k
      cases r2
      split at h2
      · rename_i xs he
        obtain ⟨a, vs, rfl, h4, r4⟩ := rd_lst w2 (r1.mono s2) he
        refine ⟨k, rfl, a, vs, rfl, SqL.of h4, ?_⟩
        split at h2
        · rename_i e1
          cases h2
          exact .inl ⟨by rw [e1], fun b hb => (qz.np w2).upd w2 hb r4⟩
        · split at h2
          · rename_i e1
            cases h2
            exact .inr ⟨by rw [e1], fun b hb => (qz.np w2).upd w2 hb (rep_rev r4)⟩
          · cases h2
      · cases h2
    · cases h2
end
end Pv

namespace Pv
open PySem L2
variable [TabT]
/-! ## lists that can be changed, walked -/
theorem lstAt_ok {m : M} {d : D} {p : Nat × List D} (h : lstAt m d = some p) : d = .ref p.1 ∧ m[p.1]? = some (.lst p.2) := by
  unfold lstAt at h
  split at h
  · split at h
    · rename_i l _ xs e
      cases h
      exact ⟨rfl, e⟩
    · cases h
  · cases h
theorem gdE_ok {l : Nat} {xs : List D} {te : Env → M → O1} {env : Env} {m : M} {p : D × M} (h : calmR (gdE l xs te env m) = some p) : m[l]? = some (MO.lst xs) ∧ calmR (te env m) = some p := by
  unfold gdE at h
  split at h
  · exact ⟨by assumption, h⟩
  · cases h
section
variable {X : Cx} {x it tg c : Expr} {scope : Scope} {pos : Pos} {ra rx rc : RE} {own : List (Str × Nat)} {t : Tg} {y_ : Yc}
/-- a comprehension over a list of the memory -/
theorem comp_runR {K : PySem.W.Frag} {σ : L2.St} {H1 : Hp} {Q : VK} {Z : Addr → Prop} {ph1 : List Addr} {env : Env} {m m' : M} {items ds : List D} {a : Addr} {l : Nat} {tt : TT} {te : TE} {g : TG} {vs : List Nat} {Dl : Addr} {go : List D → M → Option (List D × M)}
    (hgo : ∀ m, go [] m = some ([], m)) (hgd : ∀ d r m q, go (d :: r) m = some q → m[l]? = some (MO.lst items)) (hend : m'[l]? = some (MO.lst items)) (ha : ph1[l]? = some a)
    (re : RepE K yN Z ph1 H1 σ env) (wd : Wd K Z ph1 m H1) (hD : H1 Dl = none) (e : go items m = some (ds, m')) (hl : items.length ≤ lim)
    (turn : ∀ i d ph2 m2 H2 x rest (N : Hp → Prop), items[i]? = some d → Sx ph1 H1 ph2 H2 → Wd K (Zp Z Dl) ph2 m2 H2 → RepE K yN (Zp Z Dl) ph2 H2 (wipe σ vs) (wipeE env vs) → RepV K (Zp Z Dl) ph2 H2 x d → go (d :: items.drop (i + 1)) m2 = some (rest, m') →
      (∀ ph4 m4 H4 v y rest', Sx ph2 H2 ph4 H4 → Wd K (Zp Z Dl) ph4 m4 H4 → RepV K (Zp Z Dl) ph4 H4 v y → go (items.drop (i + 1)) m4 = some (rest', m') → rest = y :: rest' → ∃ acc, H4 Dl = some (.lst acc) ∧ acc.length < sizeLine ∧ N (upd H4 Dl (.lst (acc ++ [v])))) →
      (∀ ph4 m4 H4, Sx ph2 H2 ph4 H4 → Wd K (Zp Z Dl) ph4 m4 H4 → go (items.drop (i + 1)) m4 = some (rest, m') → N H4) →
      g x (wipe σ vs) H2 fun σ2 H3 => wipe σ2 vs = wipe σ vs ∧ tt σ2 H3 fun b H4 => if b = true then te σ2 H4 fun y H5 => ∃ acc, H5 Dl = some (.lst acc) ∧ acc.length < sizeLine ∧ N (upd H5 Dl (.lst (acc ++ [y]))) else N H4)
    (q : NP K Z ph1 H1 m' ds Q) :
    ∃ W : Nat → Nat → Hp → Prop, (∃ k, W 0 k (upd H1 Dl (.lst []))) ∧ ∀ i k H, W i k H →
      ((Itl K a).stop i H ∧ Q (.ref Dl) H) ∨ ((Itl K a).go i H ∧ ∃ Nx : Hp → Prop, (∀ H', Nx H' → ∃ k', k' < k ∧ W (i + 1) k' H') ∧ ∀ x H', (Itl K a).yld i H x H' → g x (wipe σ vs) H' fun σ2 H2 => wipe σ2 vs = wipe σ vs ∧ tt σ2 H2 fun b H3 =>
        if b = true then te σ2 H3 fun y H4 => ∃ acc, H4 Dl = some (.lst acc) ∧ acc.length < sizeLine ∧ Nx (upd H4 Dl (.lst (acc ++ [y]))) else Nx H3) := by
  refine ⟨fun i k H => k = items.length - i ∧ CAt K Z ph1 H1 Dl go items ds m' i H, ⟨items.length, by simp, Nat.zero_le _, ?_⟩, ?_⟩
  · exact ⟨ph1, m, [], [], ds, Sx.upd hD, wd.newZ hD, wd.np hD, upd_same, .nil, Nat.le_refl _, by simpa using e, by simp⟩
  · rintro i k H ⟨rfl, hi, ph2, m2, accv, accd, rest, s2, w2, n2, hDl, rac, hla, hg, hds⟩
    have ha2 : ph2[l]? = some a := s2.at_ ha
    by_cases hlt : i < items.length
    · have hdr : items.drop i = items[i] :: items.drop (i + 1) := List.drop_eq_getElem_cons hlt
      rw [hdr] at hg
      obtain ⟨vs', hv, rv⟩ := w2.at (hgd _ _ _ _ hg) ha2
      obtain ⟨v0, hv0, _⟩ := rv.get (List.getElem?_eq_getElem hlt)
      refine .inr ⟨⟨vs', v0, SqL.of hv, hv0⟩, CAt K Z ph1 H1 Dl go items ds m' (i + 1), fun H' h => ⟨items.length - (i + 1), by omega, rfl, h⟩, fun x H' hy => ?_⟩
      obtain ⟨rfl, hy⟩ := hy
      obtain ⟨d, hd, rx⟩ := rv.get' (hy vs' (SqL.of hv))
      have e2 : items[i] = d := by rw [List.getElem?_eq_getElem hlt] at hd; exact Option.some.inj hd
      rw [e2] at hg
      refine turn i d ph2 m2 _ x rest _ hd s2 w2 (((re.zp hD).mono s2).wipe vs fun i _ => yN_off i) rx hg (fun ph4 m4 H4 v y rest' s4 w4 rv hg4 er => ?_) (fun ph4 m4 H4 s4 w4 hg4 => ?_)
      · have hD4 : H4 Dl = some (.lst accv) := s4.fr _ _ hDl n2 .lst
        have n4 : Dl ∉ ph4 := s4.notin hDl n2
        refine ⟨accv, hD4, by rw [rac.len, ← lim_eq]; omega, hlt, ph4, m4, accv ++ [v], accd ++ [y], rest', (s2.trans s4).updNew hD hD4 (fun _ e => by cases e) (fun f => f.l _ rfl), w4.updZ (.inl rfl) n4 hD4, n4, upd_same, ?_, by simp; omega, hg4, by rw [← hds, er]; simp⟩
        exact ((rac.mono s4).append (.cons rv .nil)).updZ (.inl rfl) hD4
      · have hD4 : H4 Dl = some (.lst accv) := s4.fr _ _ hDl n2 .lst
        have n4 : Dl ∉ ph4 := s4.notin hDl n2
        exact ⟨hlt, ph4, m4, accv, accd, rest, s2.trans s4, w4, n4, hD4, rac.mono s4, by omega, hg4, hds⟩
    · have ei : i = items.length := by omega
      subst ei
      rw [List.drop_length, hgo] at hg
      cases hg
      rw [List.append_nil] at hds
      subst hds
      obtain ⟨vs', hv, rv⟩ := w2.at hend ha2
      exact .inl ⟨⟨vs', SqL.of hv, by rw [rv.len]; exact Nat.le_refl _⟩, q ph2 H Dl accv hD hDl n2 s2 w2 rac⟩
def rCompR_ (own : List (Str × Nat)) (t : Tg) (ra rx : RE) : RE := fun env m => (ra env m).bind fun x m => match lstAt m x with
  | some p => if p.2.length ≤ lim then endL p.1 p.2 (compL t (wipeE env (own.map (·.2))) (gdE p.1 p.2 rx) p.2 m) else .no
  | none => .no
def rCompIR_ (own : List (Str × Nat)) (t : Tg) (ra rc rx : RE) : RE := fun env m => (ra env m).bind fun x m => match lstAt m x with
  | some p => if p.2.length ≤ lim then endL p.1 p.2 (compLI t (wipeE env (own.map (·.2))) (gdE p.1 p.2 rc) rx p.2 m) else .no
  | none => .no
theorem ref_rep {K : PySem.W.Frag} {Z : Addr → Prop} {ph : List Addr} {H : Hp} {v : V} {l : Nat} (r : RepV K Z ph H v (.ref l)) : ∃ a, v = .ref a ∧ ph[l]? = some a := by
  cases r with
  | ref h k => exact ⟨_, rfl, h⟩
theorem compR_read (hin : tgIn (own.map (·.2)) t = true) {K : PySem.W.Frag} (σ : L2.St) (H : Hp) (Q : VK) (h : tEvN K y_ (rCompR_ own t ra rx) σ H Q) : tLc (iList K (tEv K y_ ra)) (gT K yN t) tYes (tEv K yN rx) (own.map (·.2)) σ H Q := by
  obtain ⟨Z, ph, env, m, re, wd, q⟩ := h
  refine ⟨Z, ph, env, m, re, wd, FinN.bind q fun d m1 ph1 H1 s1 w1 q u ru => ?_⟩
  split at q
  · rename_i p hp
    obtain ⟨rfl, hm⟩ := lstAt_ok hp
    obtain ⟨a, rfl, ha⟩ := ref_rep ru
    obtain ⟨vs, hv, rv⟩ := w1.at hm ha
    refine ⟨a, rfl, ⟨vs, SqL.of hv⟩, fun Dl hD => ?_⟩
    split at q
    · rename_i hl
      unfold endL at q
      split at q
      · rename_i qq h2
        obtain ⟨ys, mm⟩ := qq
        split at q
        · rename_i hend
          obtain ⟨ds, e, q⟩ := q
          cases e
          refine comp_runR (go := compL t (wipeE env (own.map (·.2))) (gdE p.1 p.2 rx)) (fun _ => rfl) (fun d r m q hq => ?_) hend ha ((re.mono s1).plain rfl) w1 hD h2 hl ?_ q
          · simp only [compL] at hq
            obtain ⟨e1, b1, hq⟩ := Option.bind_eq_some_iff.mp hq
            obtain ⟨y, b2, hq⟩ := Option.bind_eq_some_iff.mp hq
            exact (gdE_ok b2).1
          · intro i d ph2 m2 H2 x rest N hd s2 w2 re2 rx2 hg k1 k2
            simp only [compL] at hg
            obtain ⟨e1, b1, hg⟩ := Option.bind_eq_some_iff.mp hg
            obtain ⟨y, b2, hg⟩ := Option.bind_eq_some_iff.mp hg
            obtain ⟨r, b3, hg⟩ := Option.bind_eq_some_iff.mp hg
            cases hg
            refine ⟨_, ph2, _, m2, d, e1, re2, w2, rx2, b1, fun σ' re' hw => ⟨by rw [hw _ hin, wipe_wipe], _, ph2, e1, m2, re', w2, ?_⟩⟩
            rw [calm_ok (gdE_ok b2).2]
            exact fun ph4 H4 s4 w4 v r4 => k1 ph4 y.2 H4 v y.1 r.1 s4 w4 r4 b3 rfl
        · exact q.elim
      · exact q.elim
    · exact q.elim
  · exact q.elim
theorem compIR_read (hin : tgIn (own.map (·.2)) t = true) {K : PySem.W.Frag} (σ : L2.St) (H : Hp) (Q : VK) (h : tEvN K y_ (rCompIR_ own t ra rc rx) σ H Q) : tLc (iList K (tEv K y_ ra)) (gT K yN t) (tEvT K yN rc) (tEv K yN rx) (own.map (·.2)) σ H Q := by
  obtain ⟨Z, ph, env, m, re, wd, q⟩ := h
  refine ⟨Z, ph, env, m, re, wd, FinN.bind q fun d m1 ph1 H1 s1 w1 q u ru => ?_⟩
  split at q
  · rename_i p hp
    obtain ⟨rfl, hm⟩ := lstAt_ok hp
    obtain ⟨a, rfl, ha⟩ := ref_rep ru
    obtain ⟨vs, hv, rv⟩ := w1.at hm ha
    refine ⟨a, rfl, ⟨vs, SqL.of hv⟩, fun Dl hD => ?_⟩
    split at q
    · rename_i hl
      unfold endL at q
      split at q
      · rename_i qq h2
        obtain ⟨ys, mm⟩ := qq
        split at q
        · rename_i hend
          obtain ⟨ds, e, q⟩ := q
          cases e
          refine comp_runR (go := compLI t (wipeE env (own.map (·.2))) (gdE p.1 p.2 rc) rx) (fun _ => rfl) (fun d r m q hq => ?_) hend ha ((re.mono s1).plain rfl) w1 hD h2 hl ?_ q
          · simp only [compLI] at hq
            obtain ⟨e1, b1, hq⟩ := Option.bind_eq_some_iff.mp hq
            obtain ⟨y, b2, hq⟩ := Option.bind_eq_some_iff.mp hq
            exact (gdE_ok b2).1
          · intro i d ph2 m2 H2 x rest N hd s2 w2 re2 rx2 hg k1 k2
            simp only [compLI] at hg
            obtain ⟨e1, b1, hg⟩ := Option.bind_eq_some_iff.mp hg
            obtain ⟨cc, b0, hg⟩ := Option.bind_eq_some_iff.mp hg
            have b0 := calm_ok (gdE_ok b0).2
            refine ⟨_, ph2, _, m2, d, e1, re2, w2, rx2, b1, fun σ' re' hw => ⟨by rw [hw _ hin, wipe_wipe], _, ph2, e1, m2, re', w2, ?_⟩⟩
            rw [b0]
            intro ph3 H3 s3 w3
            split at hg
            · rename_i hp
              obtain ⟨y, b2, hg⟩ := Option.bind_eq_some_iff.mp hg
              obtain ⟨r, b3, hg⟩ := Option.bind_eq_some_iff.mp hg
              cases hg
              refine ⟨true, hp, iteT ?_⟩
              refine ⟨_, ph3, e1, cc.2, re'.mono s3, w3, ?_⟩
              rw [calm_ok b2]
              exact fun ph4 H4 s4 w4 v r4 => k1 ph4 y.2 H4 v y.1 r.1 (s3.trans s4) w4 r4 b3 rfl
            · rename_i hp
              refine ⟨false, hp, iteF ?_⟩
              exact k2 ph3 cc.2 H3 s3 w3 hg
            · cases hg
        · exact q.elim
      · exact q.elim
    · exact q.elim
  · exact q.elim
theorem n_compRN (hc : X.calm = true) (hN : X.N.Nodup) (hi : PE X it (tEv X.K y_ ra)) (ok : BlkOk X.N X.env.scope scope own) (hin : tgIn (own.map (·.2)) t = true)
    (hg : ∀ (s : Shared) (H : Hp) (C : Addr) (cl : List (Str × Addr)) (fp : List Addr), PG (X.blk s H scope (compEnvC scope cl C X.env) fp) tg (gT X.K yN t))
    (he : ∀ (s : Shared) (H : Hp) (C : Addr) (cl : List (Str × Addr)) (fp : List Addr), PE (X.blk s H scope (compEnvC scope cl C X.env) fp) x (tEv X.K yN rx)) (hs : ∀ v, foldedSetIterable it X.env v = pure v) :
    PE X (.ListComp x [⟨tg, it, [], 0⟩] scope pos) (tEvN X.K y_ (rCompR_ own t ra rx)) :=
  pe_imp (pe_lc hc hN (pi_list hi) ok hg (fun _ _ _ _ _ => pts_nil) he hs) (compR_read hin)
theorem n_compIRN (hc : X.calm = true) (hN : X.N.Nodup) (hi : PE X it (tEv X.K y_ ra)) (ok : BlkOk X.N X.env.scope scope own) (hin : tgIn (own.map (·.2)) t = true)
    (hg : ∀ (s : Shared) (H : Hp) (C : Addr) (cl : List (Str × Addr)) (fp : List Addr), PG (X.blk s H scope (compEnvC scope cl C X.env) fp) tg (gT X.K yN t))
    (ht : ∀ (s : Shared) (H : Hp) (C : Addr) (cl : List (Str × Addr)) (fp : List Addr), PT (X.blk s H scope (compEnvC scope cl C X.env) fp) c (tEvT X.K yN rc))
    (he : ∀ (s : Shared) (H : Hp) (C : Addr) (cl : List (Str × Addr)) (fp : List Addr), PE (X.blk s H scope (compEnvC scope cl C X.env) fp) x (tEv X.K yN rx)) (hs : ∀ v, foldedSetIterable it X.env v = pure v) :
    PE X (.ListComp x [⟨tg, it, [c], 0⟩] scope pos) (tEvN X.K y_ (rCompIR_ own t ra rc rx)) :=
  pe_imp (pe_lc hc hN (pi_list hi) ok hg (fun s H C cl fp => pts_one (ht s H C cl fp)) he hs) (compIR_read hin)
theorem endL_lst {l : Nat} {xs : List D} {o : Option (List D × M)} {d : D} {m : M} (h : endL l xs o = .ok d m) : ∃ ds, d = .lst ds := by
  unfold endL at h
  split at h
  · split at h
    · cases h; exact ⟨_, rfl⟩
    · cases h
  · cases h
theorem rCompR_lst {env : Env} {m m' : M} {d : D} (h : rCompR_ own t ra rx env m = .ok d m') : ∃ ds, d = .lst ds := by
  obtain ⟨p, m1, h1, e⟩ := rz_ok h
  split at e
  · split at e
    · exact endL_lst e
    · cases e
  · cases e
theorem rCompIR_lst {env : Env} {m m' : M} {d : D} (h : rCompIR_ own t ra rc rx env m = .ok d m') : ∃ ds, d = .lst ds := by
  obtain ⟨p, m1, h1, e⟩ := rz_ok h
  split at e
  · split at e
    · exact endL_lst e
    · cases e
  · cases e
/-! ### y = [..] on one line -/
variable {y : Str} {py spos : Pos} {i : Nat}
theorem s_setLcR {t : Tg} (hc : X.calm = true) (hN : X.N.Nodup) (hy : X.N[i]? = some y) (hyl : X.env.scope.names.lookup y = some .local)
    (hsw : swapsWith (.ListComp x [⟨tg, it, [], 0⟩] scope pos) (some (.Name y py)) spos.line X.env = pure true) (hi : PE X it (tEv X.K y_ ra)) (ok : BlkOk X.N X.env.scope scope own)
    (hg : ∀ (s : Shared) (H : Hp) (C : Addr) (cl : List (Str × Addr)) (fp : List Addr), PG (X.blk s H scope (compEnvC scope cl C X.env) fp) tg (gT X.K yN t))
    (he : ∀ (s : Shared) (H : Hp) (C : Addr) (cl : List (Str × Addr)) (fp : List Addr), PE (X.blk s H scope (compEnvC scope cl C X.env) fp) x (tEv X.K yN rx)) (hs : ∀ v, foldedSetIterable it X.env v = pure v) :
    PS X (.Assign [.Name y py] (.ListComp x [⟨tg, it, [], 0⟩] scope pos) spos) (tAsg (tLc (iList X.K (tEv X.K y_ ra)) (gT X.K yN t) tYes (tEv X.K yN rx) (own.map (·.2))) (gName i)) :=
  ps_setLc hc hN hy hyl hsw (pi_list hi) ok hg (fun _ _ _ _ _ => pts_nil) he hs
theorem s_setLcIR {t : Tg} (hc : X.calm = true) (hN : X.N.Nodup) (hy : X.N[i]? = some y) (hyl : X.env.scope.names.lookup y = some .local)
    (hsw : swapsWith (.ListComp x [⟨tg, it, [c], 0⟩] scope pos) (some (.Name y py)) spos.line X.env = pure true) (hi : PE X it (tEv X.K y_ ra)) (ok : BlkOk X.N X.env.scope scope own)
    (hg : ∀ (s : Shared) (H : Hp) (C : Addr) (cl : List (Str × Addr)) (fp : List Addr), PG (X.blk s H scope (compEnvC scope cl C X.env) fp) tg (gT X.K yN t))
    (ht : ∀ (s : Shared) (H : Hp) (C : Addr) (cl : List (Str × Addr)) (fp : List Addr), PT (X.blk s H scope (compEnvC scope cl C X.env) fp) c (tEvT X.K yN rc))
    (he : ∀ (s : Shared) (H : Hp) (C : Addr) (cl : List (Str × Addr)) (fp : List Addr), PE (X.blk s H scope (compEnvC scope cl C X.env) fp) x (tEv X.K yN rx)) (hs : ∀ v, foldedSetIterable it X.env v = pure v) :
    PS X (.Assign [.Name y py] (.ListComp x [⟨tg, it, [c], 0⟩] scope pos) spos) (tAsg (tLc (iList X.K (tEv X.K y_ ra)) (gT X.K yN t) (tEvT X.K yN rc) (tEv X.K yN rx) (own.map (·.2))) (gName i)) :=
  ps_setLc hc hN hy hyl hsw (pi_list hi) ok hg (fun s H C cl fp => pts_one (ht s H C cl fp)) he hs
/-! ### loops -/
variable {rs : RS} {body : List Stmt}
theorem for_runR {K : PySem.W.Frag} {σ : L2.St} {H1 : Hp} {E : Ends} {Z : Addr → Prop} {ph1 : List Addr} {env env' : Env} {m m' : M} {items : List D} {a : Addr} {l : Nat} {fl : Fl} {t : Tg} {rs : RS} (ha : ph1[l]? = some a) (hend : fl = .nx → m'[l]? = some (MO.lst items))
    (re : RepE K y_ Z ph1 H1 σ env) (wd : Wd K Z ph1 m H1) (e : forL t (gdR l items rs) items env m = some (fl, env', m')) (q : FlQ K y_ Z ph1 H1 E fl env' m') :
    ∃ W : Nat → Nat → L2.St → Hp → Prop, (∃ k, W 0 k σ H1) ∧ ∀ i k σ H, W i k σ H →
      ((Itl K a).stop i H ∧ E.nx σ H) ∨ ((Itl K a).go i H ∧ ∃ N : L2.St → Hp → Prop, (∀ σ' H', N σ' H' → ∃ k', k' < k ∧ W (i + 1) k' σ' H') ∧ ∀ x H', (Itl K a).yld i H x H' → gT K y_ t x σ H' fun σ2 H2 => tEvS K y_ rs { E with nx := N, ct := N, bk := E.nx } σ2 H2) := by
  refine ⟨fun i k σ H => k = items.length - i ∧ i ≤ items.length ∧ ∃ ph2 m2 env2, Sx ph1 H1 ph2 H ∧ Wd K Z ph2 m2 H ∧ RepE K y_ Z ph2 H σ env2 ∧ forL t (gdR l items rs) (items.drop i) env2 m2 = some (fl, env', m'), ⟨items.length, by simp, Nat.zero_le _, ph1, m, env, Sx.refl, wd, re, by simpa using e⟩, ?_⟩
  rintro i k σ H ⟨rfl, hi, ph2, m2, env2, s2, w2, re2, hg⟩
  have ha2 : ph2[l]? = some a := s2.at_ ha
  by_cases hlt : i < items.length
  · rw [List.drop_eq_getElem_cons hlt] at hg
    simp only [forL] at hg
    obtain ⟨e1, b1, hg⟩ := Option.bind_eq_some_iff.mp hg
    obtain ⟨⟨fl1, env1, m1⟩, b2, hg⟩ := Option.bind_eq_some_iff.mp hg
    have b3 : m2[l]? = some (MO.lst items) ∧ rs e1 m2 = some (fl1, env1, m1) := by
      unfold gdR at b2
      split at b2
      · exact ⟨by assumption, b2⟩
      · cases b2
    obtain ⟨hm, b2⟩ := b3
    obtain ⟨vs', hv, rv⟩ := w2.at hm ha2
    obtain ⟨v0, hv0, _⟩ := rv.get (List.getElem?_eq_getElem hlt)
    refine .inr ⟨⟨vs', v0, SqL.of hv, hv0⟩, fun σ H => i + 1 ≤ items.length ∧ ∃ ph2 m2 env2, Sx ph1 H1 ph2 H ∧ Wd K Z ph2 m2 H ∧ RepE K y_ Z ph2 H σ env2 ∧ forL t (gdR l items rs) (items.drop (i + 1)) env2 m2 = some (fl, env', m'), fun σ' H' h => ⟨items.length - (i + 1), by omega, rfl, h⟩, fun x H' hy => ?_⟩
    obtain ⟨rfl, hy⟩ := hy
    obtain ⟨d, hd, rx⟩ := rv.get' (hy vs' (SqL.of hv))
    have e2 : items[i] = d := by rw [List.getElem?_eq_getElem hlt] at hd; exact Option.some.inj hd
    rw [e2] at b1
    refine ⟨Z, ph2, env2, m2, d, e1, re2, w2, rx, b1, fun σ' re' _ => ⟨Z, ph2, e1, m2, re', w2, ?_⟩⟩
    rw [b2]
    intro ph4 H4 σ4 s4 w4 re4
    cases fl1 with
    | nx => exact ⟨hlt, ph4, m1, env1, s2.trans s4, w4, re4, hg⟩
    | ct => exact ⟨hlt, ph4, m1, env1, s2.trans s4, w4, re4, hg⟩
    | bk => cases hg; exact q ph4 H4 σ4 (s2.trans s4) w4 re4
    | rt d => cases hg; exact q ph4 H4 σ4 (s2.trans s4) w4 re4
    | xc x => cases hg; exact q ph4 H4 σ4 (s2.trans s4) w4 re4
  · have ei : i = items.length := by omega
    subst ei
    rw [List.drop_length] at hg
    simp only [forL] at hg
    cases hg
    obtain ⟨vs', hv, rv⟩ := w2.at (hend rfl) ha2
    exact .inl ⟨⟨vs', SqL.of hv, by rw [rv.len]; exact Nat.le_refl _⟩, q ph2 H σ s2 w2 re2⟩
theorem endF_ok {l : Nat} {xs : List D} {r : R} {p : Fl × Env × M} (h : endF l xs r = some p) : r = some p ∧ (p.1 = .nx → p.2.2[l]? = some (MO.lst xs)) := by
  unfold endF at h
  obtain ⟨⟨fl, env, m⟩, e, h⟩ := Option.bind_eq_some_iff.mp h
  subst e
  cases fl with
  | nx =>
    have h : (if m[l]? = some (MO.lst xs) then some (Fl.nx, env, m) else none) = some p := h
    split at h
    · cases h; exact ⟨rfl, fun _ => by assumption⟩
    · cases h
  | rt d => cases h; exact ⟨rfl, fun e => by cases e⟩
  | bk => cases h; exact ⟨rfl, fun e => by cases e⟩
  | ct => cases h; exact ⟨rfl, fun e => by cases e⟩
  | xc x => cases h; exact ⟨rfl, fun e => by cases e⟩
theorem s_forR (hp : PassesOwn (model X.prog X.w) X.A X.env X.xe) (hc : X.calm = true) (hi : PE X it (tEv X.K y_ ra)) (hg : PG X tg (gT X.K y_ t)) (hb : PSs X body (tEvS X.K y_ rs)) (hs : ∀ v, foldedSetIterable it X.env v = pure v) :
    PS X (.For tg it body [] pos) (tEvS X.K y_ fun env m => (ra env m).st env fun x m => match lstAt m x with
      | some p => endF p.1 p.2 (forL t (gdR p.1 p.2 rs) p.2 env m)
      | none => none) :=
  ps_imp (ps_for hp hc (pi_list hi) hg hb hs) fun E σ H ⟨Z, ph, env, m, re, wd, q⟩ => ⟨Z, ph, env, m, re, wd, q.st re fun d m1 ph1 H1 s1 w1 q u ru => by
    split at q
    · rename_i p hp
      obtain ⟨rfl, hm⟩ := lstAt_ok hp
      obtain ⟨a, rfl, ha⟩ := ref_rep ru
      obtain ⟨vs, hv, rv⟩ := w1.at hm ha
      refine ⟨a, rfl, ⟨vs, SqL.of hv⟩, ?_⟩
      cases e : endF p.1 p.2 (forL t (gdR p.1 p.2 rs) p.2 env m1) with
      | none => rw [e] at q; exact q.elim
      | some r =>
        rw [e] at q
        obtain ⟨e', hend⟩ := endF_ok e
        exact for_runR ha hend (re.mono s1) w1 e' q
    · exact q.elim⟩
end
end Pv

namespace Pv
open PySem L2
variable [TabT]
/-! ## a dict of the module -/
/-- the value of the module's dict for a number or a text -/
def sVal : D → V → Prop
  | .int i, v => v = .int i
  | .str x, v => v = .str x
  | _, _ => False
/-- at a: the written dict t -/
structure GdK (K : PySem.W.Frag) (w : World) (a : Addr) (t : List (Str × D)) : Prop where
  kd : ∃ es n, KDict K w a es n
  no : ∀ z, look t z = none → PySem.W.nsIn K a z = some none
  yes : ∀ z d, look t z = some d → ∃ u v, PySem.W.nsIn K a z = some (some u) ∧ RelV v u ∧ sVal d v
theorem sVal_rep {K : PySem.W.Frag} {Z : Addr → Prop} {ph : List Addr} {H : Hp} {d : D} {v : V} (h : sVal d v) : RepV K Z ph H v d := by
  cases d with
  | int i => cases h; exact .int _
  | str i => cases h; exact .str _
  | _ => cases h
section
variable {X : Cx} {y_ : Yc} {x : Expr} {p pos : Pos} {ra : RE} {t : List (Str × D)} {a : Addr} {nm : Str}
theorem n_gin (D : GdK X.K X.w a t) (hg : Gl X nm) (hm : X.mg nm = some (.ref a)) (hd : (nm == ("__debug__" : Str)) = false) (ha : PE X x (tEv X.K y_ ra)) :
    PE X (.Compare x [.In] [.Name nm p] pos) (tEv X.K y_ fun env m => (ra env m).bind fun x m => .of (ginD t false x) m) := by
  obtain ⟨es, n, kd⟩ := D.kd
  refine pe_imp (pe_cmpR (op_in_kd kd) ha (pe_glob (v := .ref a) hg hm rfl hd) rfl) fun σ H Q ⟨Z, ph, env, m, re, wd, q⟩ => ev_bind re wd q fun d1 m1 ph1 H1 v s1 w1 re1 r1 q => ?_
  obtain ⟨z, hz, q⟩ := q.pv
  cases d1 with
  | str z0 =>
    cases hz
    cases r1
    cases e : look t z0 with
    | none => exact ⟨z0, none, rfl, rfl, D.no _ e, q.here w1 (by rw [e]; exact .bl _)⟩
    | some d =>
      obtain ⟨u, v, e1, _, _⟩ := D.yes _ _ e
      exact ⟨z0, some u, rfl, rfl, e1, q.here w1 (by rw [e]; exact .bl _)⟩
  | _ => cases hz
theorem n_gnotin (D : GdK X.K X.w a t) (hg : Gl X nm) (hm : X.mg nm = some (.ref a)) (hd : (nm == ("__debug__" : Str)) = false) (ha : PE X x (tEv X.K y_ ra)) :
    PE X (.Compare x [.NotIn] [.Name nm p] pos) (tEv X.K y_ fun env m => (ra env m).bind fun x m => .of (ginD t true x) m) := by
  obtain ⟨es, n, kd⟩ := D.kd
  refine pe_imp (pe_cmpR (op_notIn_kd kd) ha (pe_glob (v := .ref a) hg hm rfl hd) rfl) fun σ H Q ⟨Z, ph, env, m, re, wd, q⟩ => ev_bind re wd q fun d1 m1 ph1 H1 v s1 w1 re1 r1 q => ?_
  obtain ⟨z, hz, q⟩ := q.pv
  cases d1 with
  | str z0 =>
    cases hz
    cases r1
    cases e : look t z0 with
    | none => exact ⟨z0, none, rfl, rfl, D.no _ e, q.here w1 (by rw [e]; exact .bl _)⟩
    | some d =>
      obtain ⟨u, v, e1, _, _⟩ := D.yes _ _ e
      exact ⟨z0, some u, rfl, rfl, e1, q.here w1 (by rw [e]; exact .bl _)⟩
  | _ => cases hz
theorem n_gix (D : GdK X.K X.w a t) (hg : Gl X nm) (hm : X.mg nm = some (.ref a)) (hd : (nm == ("__debug__" : Str)) = false) (ha : PE X x (tEv X.K y_ ra)) (hs : PlainIx x) :
    PE X (.Subscript (.Name nm p) x pos) (tEv X.K y_ fun env m => (ra env m).bind fun x m => .of (gixD t x) m) := by
  obtain ⟨es, n, kd⟩ := D.kd
  refine pe_imp (pe_ix ix_kdict (pe_glob (v := .ref a) hg hm rfl hd) ha hs) fun σ H Q ⟨Z, ph, env, m, re, wd, q⟩ => ev_bind re wd q fun d1 m1 ph1 H1 v s1 w1 re1 r1 q => ?_
  obtain ⟨z, hz, q2⟩ := q.pv
  cases d1 with
  | str z0 =>
    cases r1
    obtain ⟨u, v, e1, e2, e3⟩ := D.yes _ _ hz
    exact ⟨a, z0, v, rfl, rfl, ⟨es, n, u, kd.at_, kd.lit, e1, e2⟩, q2.here w1 (sVal_rep e3)⟩
  | _ => cases hz
def ginB (t : List (Str × D)) (ng : Bool) : D → Option Bool
  | .str z => some (bif ng then !(look t z).isSome else (look t z).isSome)
  | _ => none
theorem ginB_eq {ng : Bool} {d : D} : ginD t ng d = (ginB t ng d).map .bl := by cases d <;> rfl
theorem t_gin (D : GdK X.K X.w a t) (hg : Gl X nm) (hm : X.mg nm = some (.ref a)) (hd : (nm == ("__debug__" : Str)) = false) (ha : PE X x (tEv X.K y_ ra)) :
    PT X (.Compare x [.In] [.Name nm p] pos) (tEvT X.K y_ fun env m => (ra env m).bind fun x m => .of (ginD t false x) m) := by
  obtain ⟨es, n, kd⟩ := D.kd
  refine pt_imp (pt_cmpR (op_in_kd kd) ha (pe_glob (v := .ref a) hg hm rfl hd) rfl) fun σ H Q ⟨Z, ph, env, m, re, wd, q⟩ => ev_bind re wd q fun d1 m1 ph1 H1 v s1 w1 re1 r1 q => ?_
  rw [ginB_eq] at q
  obtain ⟨b, hz, q2⟩ := q.tv
  cases d1 with
  | str z0 =>
    cases hz
    cases r1
    cases e : look t z0 with
    | none => rw [e] at q2; exact ⟨z0, none, rfl, rfl, D.no _ e, _, rfl, q2 ph1 H1 Sx.refl w1⟩
    | some d =>
      obtain ⟨u, v, e1, _, _⟩ := D.yes _ _ e
      rw [e] at q2
      exact ⟨z0, some u, rfl, rfl, e1, _, rfl, q2 ph1 H1 Sx.refl w1⟩
  | _ => cases hz
theorem t_gnotin (D : GdK X.K X.w a t) (hg : Gl X nm) (hm : X.mg nm = some (.ref a)) (hd : (nm == ("__debug__" : Str)) = false) (ha : PE X x (tEv X.K y_ ra)) :
    PT X (.Compare x [.NotIn] [.Name nm p] pos) (tEvT X.K y_ fun env m => (ra env m).bind fun x m => .of (ginD t true x) m) := by
  obtain ⟨es, n, kd⟩ := D.kd
  refine pt_imp (pt_cmpR (op_notIn_kd kd) ha (pe_glob (v := .ref a) hg hm rfl hd) rfl) fun σ H Q ⟨Z, ph, env, m, re, wd, q⟩ => ev_bind re wd q fun d1 m1 ph1 H1 v s1 w1 re1 r1 q => ?_
  rw [ginB_eq] at q
  obtain ⟨b, hz, q2⟩ := q.tv
  cases d1 with
  | str z0 =>
    cases hz
    cases r1
    cases e : look t z0 with
    | none => rw [e] at q2; exact ⟨z0, none, rfl, rfl, D.no _ e, _, rfl, q2 ph1 H1 Sx.refl w1⟩
    | some d =>
      obtain ⟨u, v, e1, _, _⟩ := D.yes _ _ e
      rw [e] at q2
      exact ⟨z0, some u, rfl, rfl, e1, _, rfl, q2 ph1 H1 Sx.refl w1⟩
  | _ => cases hz
/-! ## the signs of a text -/
theorem ydl_txt {K : PySem.W.Frag} {Z : Addr → Prop} {ph : List Addr} {H : Hp} {x : Str} : Ydl K Z ph H (Its x) (signs x) := by
  have hl : (signs x).length = x.cps.size := by simp [signs]
  refine ⟨fun i ph' H' hi s => ?_, fun ph' H' s => ?_, fun Z' i ph' H' x H2 hz hi s hy => ?_⟩
  · rw [hl] at hi; exact hi
  · rw [hl]; exact Nat.le_refl _
  · obtain ⟨rfl, c, hc, rfl⟩ := hy
    refine ⟨.inl rfl, .str ⟨#[c]⟩, ?_, .str _⟩
    simp [signs, hc]
def rTxt_ (ra : RE) : RA := fun env m => (ra env m).bind fun x m => .of (txtI x) m
theorem i_txt {tg : Expr} (ha : PE X x (tEv X.K y_ ra)) : PI X tg x (tEvI X.K y_ (rTxt_ ra)) :=
  pi_imp (pi_str ha) fun σ H R ⟨Z, ph, env, m, re, wd, q⟩ => by
    refine ev_bind re wd q fun d m1 ph1 H1 v s1 w1 re1 r1 q => ?_
    obtain ⟨ds, h3, qz⟩ := q.iv w1
    cases d with
    | str z =>
      cases r1
      simp only [txtI] at h3
      split at h3
      · cases h3; exact ⟨z, rfl, qz _ ydl_txt⟩
      · cases h3
    | _ => cases h3
end
end Pv

namespace Pv
open PySem PySem.Spec PyProof.Rows L2
variable [TabT]

/-! ## try: several clauses, with a name or without, else -/
abbrev TSu := Addr → Value → Option Addr → TS
/-- the ends of a suite: the clause's name goes -/
def endsO (i : Option Nat) (D : Ends) : Ends := match i with
  | some j => { nx := fun σ H => D.nx (σ.set j none) H, rt := D.rt, bk := fun σ H => D.bk (σ.set j none) H, ct := fun σ H => D.ct (σ.set j none) H }
  | none => D
def slotO (i : Option Nat) (a : Addr) (σ : L2.St) : L2.St := match i with
  | some j => σ.set j (some (.ref a))
  | none => σ
/-- what the clauses wish of an exception of the body -/
def wG (K : PySem.W.Frag) (Wout : WX) (D : Ends) : List (Value × Option Nat × TSu) → WX
  | [] => Wout
  | (c, i, ts) :: r => fun cls d σ H => ∃ b, PySem.W.exmOne K cls c = some b ∧ (b = true → ∀ a, H a = none → ts a cls d (endsO i D) (slotO i a σ) H) ∧ (b = false → wG K Wout D r cls d σ H)
/-- the clause's name -/
inductive NmO (X : Cx) : Option Str → Option Nat → Prop
  | none : NmO X none none
  | some {n : Str} {j : Nat} (hi : X.N[j]? = some n) (hl : X.env.kindOf n = some .local) : NmO X (some n) (some j)
inductive HdG (X : Cx) : List ExceptHandler → List (Value × Option Nat × TSu) → Prop
  | nil : HdG X [] []
  | cons {x : Str} {c : Value} {n : Option Str} {i : Option Nat} {ts : TSu} {b₀ : Stmt} {suite : List Stmt} {np pos' : Pos} {hds : List ExceptHandler} {l : List (Value × Option Nat × TSu)} (hc : Names X x c) (hn : NmO X n i)
      (hsu : ∀ (a : Addr) (oe : Obj) (cls : Value) (d : Option Addr) (pn : List (Addr × Obj)), Zc cls d oe → (∃ vs, oe.data = .fields vs) → PSs (X.suite a ((a, oe) :: pn)) (b₀ :: suite) (ts a cls d)) (r : HdG X hds l) :
      HdG X (.ExceptHandler (some (.Name x np)) n (b₀ :: suite) pos' :: hds) ((c, i, ts) :: l)
section
variable {X : Cx} {body orelse : List Stmt} {h₀ : ExceptHandler} {hds : List ExceptHandler} {l : List (Value × Option Nat × TSu)} {pos : Pos} {tb : WX → TS} {Wout : WX} {u : TS}
theorem ps_tryG (hN : X.N.Nodup) (hs : X.stack = X.env :: X.outer) (hf : X.env.frame = some X.env.locals) (tk : Takes X Wout) (ho : PSs X orelse u)
    (hb : ∀ (W : WX) (pn : List (Addr × Obj)) (xe : Value → Shared → Prop), Takes (X.tr pn xe) W → PassesOwn (model X.prog X.w) X.A X.env xe → PSs (X.tr pn xe) body (tb W))
    (hh : HdG X (h₀ :: hds) l) : PS X (.Try body (h₀ :: hds) orelse [] pos) (fun D σ H => tb (wG X.K Wout D l) { D with nx := u D } σ H) := by
  refine ⟨fun pins s σ H D I h => ?_⟩
  have ok := I.ok
  have hfr : X.A.frames = some (X.env :: X.outer) := by rw [ok.frames, hs]
  refine wpAny_Try_except ?_
  refine wpAny_mono ((hb (wG X.K Wout D l) (X.pn ++ pins) (fun e t₁ => wpAny (model X.prog X.w) X.A (noteFrame e X.env) (fun _ t₂ => wpAny (model X.prog X.w) X.A (setFlight e none) (fun _ t₃ =>
    wpAny (model X.prog X.w) X.A (handleBy e X.env (h₀ :: hds)) (SP X pins D) X.xe t₃) X.xe t₂) X.xe t₁) (fun v s' xx => ?_) PassesOwn.looking).run [] s σ H { D with nx := u D } (I.toTry _) h) (fun f s1 hsp => ?_) (fun e s1 he => he)
  · obtain ⟨a, B, sI, pins', σ', H', cls, d, rfl, J', nb, up, sky, na, os, ag, w⟩ := xx
    have J : Inv X pins σ' H' sI := J'.ofTry ok
    have sky2 : Sky B (X.env :: X.outer) a (Zc cls d) X.env.locals s'.heap := by rw [← hs]; exact sky
    show wpAny (model X.prog X.w) X.A (noteFrame (.ref a) X.env) _ _ _
    refine Sky.land Zc.steady hfr hf sky2 fun h3 fl3 up3 => ?_
    have J3 : Inv X pins σ' H' { s' with heap := h3 } := J.landed nb fl3.1 (up.trans up3) os ag
    obtain ⟨oe3, vs3, he3, hz3, hd3⟩ := fl3.there
    have nfr : a ∉ frs (X.env :: X.outer) := fun hm => by
      obtain ⟨_, o', e', hnf⟩ := fl3.2.2.1.mem hm
      rw [he3] at e'; cases e'
      exact hnf _ hd3
    have nL : a ≠ X.env.locals := fun z => nfr (List.mem_filterMap.mpr ⟨X.env, List.mem_cons_self, by rw [hf, z]⟩)
    have nF : a ∉ X.fs := fun hm => by
      obtain ⟨ev, hev, q⟩ := List.mem_filterMap.mp hm
      exact nfr (List.mem_filterMap.mpr ⟨ev, List.mem_cons_of_mem _ hev, q⟩)
    have S3 := J3.suite he3 hd3 na nL nF
    have LT : PySem.W.Looks (model X.prog X.w) h3 (typeOf (.ref a)) cls := fun A Q E s k q => wpAny_typeOf_ref (k _ _ he3) (by rw [hz3.1]; exact q)
    have go : ∀ {hds' : List ExceptHandler} {l' : List (Value × Option Nat × TSu)}, HdG X hds' l' → wG X.K Wout D l' cls d σ' H' → wpAny (model X.prog X.w) X.A (handleBy (.ref a) X.env hds') (SP X pins D) X.xe { s' with heap := h3 } := by
      intro hds' l' hk
      induction hk with
      | nil =>
        intro w
        refine wpAny_handleBy_nil ?_
        obtain ⟨k1, k2, k3, oe, vs, T, oT, ts', he, hz, hd, h1, hr⟩ := id fl3
        unfold PySem.passOn
        refine wpAny_bind (wpAny_field he hd h1 ?_)
        rw [if_neg (show ¬ ((Value.ref T == Value.none) = true) from by simp)]
        have fin : wpAny (model X.prog X.w) X.A (setFlight (.ref a) X.env.frame) (fun _ t4 => wpAny (model X.prog X.w) X.A (throw (.ref a) : Sem Flow) (SP X pins D) X.xe t4) X.xe { s' with heap := h3 } := by
          rw [hf]
          refine HandSPX.setFlight_upZ fl3 fun h4 hh4 up4 => wpAny_throw (tk _ _ ?_)
          exact ⟨a, B, sI, pins, σ', H', cls, d, rfl, J, nb, (up.trans up3).trans up4, .inr (.inr (by rw [hs]; exact hh4)), na, os, ag, w⟩
        first
          | exact wpAny_bind (wpAny_pure (wpAny_bind fin))
          | exact wpAny_bind fin
      | @cons x c n i ts b₀ suite np pos' hds2 l2 hc hn hsu r ih =>
        intro w
        obtain ⟨b, hb1, hyes, hno⟩ := w
        refine wpAny_handleBy_cons (codeAny_handlers_test ?_) (by intro q; cases q)
        have LM := PySem.W.exm_one (M := model X.prog X.w) J3.kIn LT hb1
        have test : ∀ {Q : Value → Shared → Prop} {E : Value → Shared → Prop}, Q c { s' with heap := h3 } → wpAny (model X.prog X.w) (X.A.mark (some (.ref a))) (eval (.Name x np) X.env) Q E { s' with heap := h3 } := fun {Q E} q => by
          obtain ⟨hg, hdbg, hm | ⟨hm, hv, hnn⟩⟩ := hc
          · exact ld_glob (X := X.suite a ((a, oe3) :: (X.pn ++ pins))) S3 hg hm q hdbg
          · exact ld_blt (X := X.suite a ((a, oe3) :: (X.pn ++ pins))) S3 hg hm hv q hnn hdbg
        refine test (LM.here ?_)
        cases b with
        | false =>
          show wpAny _ X.A (handleBy (.ref a) X.env hds2) _ _ _
          exact ih (hno rfl)
        | true =>
          have go2 : ∀ (h4 : Heap) (fl4 : HandSPX.FlyingZ B (X.env :: X.outer) a (Zc cls d) h4) (up4 : h3.UpToSlots h4), ∃ oe4, Zc cls d oe4 ∧ (∃ vs, oe4.data = .fields vs) ∧ Inv (X.suite a ((a, oe4) :: (X.pn ++ pins))) [] σ' H' { s' with heap := h4 } := fun h4 fl4 up4 => by
            have J4 : Inv X pins σ' H' { s' with heap := h4 } := J.landed nb fl4.1 ((up.trans up3).trans up4) os ag
            obtain ⟨oe4, vs4, he4, hz4, hd4⟩ := fl4.there
            exact ⟨oe4, hz4, ⟨_, hd4⟩, J4.suite he4 hd4 na nL nF⟩
          cases hn with
          | none =>
            refine codeAny_handlers_suite ?_
            refine HandSPX.lands_againZ fl3 fun h4 fl4 up4 => ?_
            obtain ⟨oe4, hz4, hd4, S4⟩ := go2 h4 fl4 up4
            refine wpAny_mono ((hsu a oe4 cls d (X.pn ++ pins) hz4 hd4).run [] _ _ H' _ S4 (hyes rfl a na)) (fun f s6 hsp => ?_) (fun _ _ z => False.elim z)
            cases f with
            | ret v =>
              obtain ⟨v6, σ6, H6, S6, r6, q6⟩ := hsp
              exact ⟨_, _, _, S6.unsuite ok, r6, q6⟩
            | _ =>
              obtain ⟨σ6, H6, S6, q6⟩ := hsp
              exact ⟨_, _, S6.unsuite ok, q6⟩
          | @some n j hi hln =>
            refine codeAny_handlers_suite_as ?_
            refine HandSPX.lands_againZ fl3 fun h4 fl4 up4 => ?_
            obtain ⟨oe4, hz4, hd4, S4⟩ := go2 h4 fl4 up4
            refine store_ok (X := X.suite a ((a, oe4) :: (X.pn ++ pins))) (v := .ref a) S4 hN hi (.inl hln) rfl (fun s5 S5 => ?_) (.inr hln)
            refine wpAny_mono ((hsu a oe4 cls d (X.pn ++ pins) hz4 hd4).run [] s5 _ H' _ S5 (hyes rfl a na)) (fun f s6 hsp => ?_) (fun _ _ z => False.elim z)
            have ends : ∀ {σ6 : L2.St} {H6 : Hp} {Q : Shared → Prop}, Inv (X.suite a ((a, oe4) :: (X.pn ++ pins))) [] σ6 H6 s6 → (∀ s7, Inv X pins (σ6.set j none) H6 s7 → Q s7) →
                wpAny (model X.prog X.w) X.A (do bindName X.env n .none; unbindBehindTheSuite X.env n pos') (fun _ s7 => Q s7) X.xe s6 := fun {σ6 H6 Q} S6 hq => gone_ok (S6.unsuite ok) hN hi hln hq
            cases f with
            | ret v =>
              obtain ⟨v6, σ6, H6, S6, r6, q6⟩ := hsp
              exact ends S6 fun s7 J7 => ⟨_, _, _, J7, r6, q6⟩
            | next =>
              obtain ⟨σ6, H6, S6, q6⟩ := hsp
              exact ends S6 fun s7 J7 => ⟨_, _, J7, q6⟩
            | brk =>
              obtain ⟨σ6, H6, S6, q6⟩ := hsp
              exact ends S6 fun s7 J7 => ⟨_, _, J7, q6⟩
            | cont =>
              obtain ⟨σ6, H6, S6, q6⟩ := hsp
              exact ends S6 fun s7 J7 => ⟨_, _, J7, q6⟩
    exact go hh w
  · cases f with
    | next =>
      obtain ⟨σ', H', J', q⟩ := hsp
      exact ho.run pins s1 σ' H' D (J'.ofTry ok) q
    | ret v =>
      obtain ⟨v', σ', H', J', r, q⟩ := hsp
      exact ⟨v', σ', H', J'.ofTry ok, r, q⟩
    | brk =>
      obtain ⟨σ', H', J', q⟩ := hsp
      exact ⟨σ', H', J'.ofTry ok, q⟩
    | cont =>
      obtain ⟨σ', H', J', q⟩ := hsp
      exact ⟨σ', H', J'.ofTry ok, q⟩

/-! ### its reading -/
def rTry_ (rb : RS) (rh : XV → RS) (ro : RS) : RS := fun env m => (rb env m).bind fun r => match r.1 with
  | .nx => ro r.2.1 r.2.2
  | .xc x => rh x r.2.1 r.2.2
  | _ => some r
/-- what the clauses make of the body's exception is what they wish for -/
def HwR (K : PySem.W.Frag) (y : Yc) (rh : XV → RS) (l : List (Value × Option Nat × TSu)) : Prop := ∀ (cls : Value) (d : Option Addr) (x : XV) (σ : L2.St) (H : Hp) (D : Ends) (Z : Addr → Prop) (ph : List Addr) (env : Env) (m : M),
  RepE K y Z ph H σ env → Wd K Z ph m H → RepX K Z ph H cls d x → FinS K y Z ph H (rh x env m) D → wG K y.W D l cls d σ H
theorem s_try {y_ : Yc} {rb ro : RS} {rh : XV → RS} (hN : X.N.Nodup) (hs : X.stack = X.env :: X.outer) (hf : X.env.frame = some X.env.locals) (tk : Takes X y_.W) (hcx : y_.cx = none) (ho : PSs X orelse (tEvS X.K y_ ro))
    (hb : ∀ (W : WX) (pn : List (Addr × Obj)) (xe : Value → Shared → Prop), Takes (X.tr pn xe) W → PassesOwn (model X.prog X.w) X.A X.env xe → PSs (X.tr pn xe) body (tEvS X.K ⟨W, none, none⟩ rb))
    (hh : HdG X (h₀ :: hds) l) (hw : HwR X.K y_ rh l) : PS X (.Try body (h₀ :: hds) orelse [] pos) (tEvS X.K y_ (rTry_ rb rh ro)) :=
  ps_imp (ps_tryG hN hs hf tk ho hb hh) fun D σ H ⟨Z, ph, env, m, re, wd, q⟩ => by
    refine ⟨Z, ph, env, m, re.plain rfl, wd, ?_⟩
    unfold rTry_ at q
    cases e : rb env m with
    | none => rw [e] at q; exact q.elim
    | some r =>
      obtain ⟨fl, env1, m1⟩ := r
      rw [e] at q
      intro ph' H' σ' s w re'
      have re2 : RepE X.K y_ Z ph' H' σ' env1 := re'.plain hcx
      cases fl with
      | nx => exact ⟨Z, ph', env1, m1, re2, w, FinS.after q s⟩
      | bk => exact q ph' H' σ' s w re2
      | ct => exact q ph' H' σ' s w re2
      | rt d => exact q ph' H' σ' s w re2
      | xc x => exact fun cls dd rx => hw cls dd x σ' H' D Z ph' env1 m1 re2 w rx (FinS.after (show FinS X.K y_ Z ph H (rh x env1 m1) D from q) s)
/-- a suite's reading -/
def ySu (a : Addr) (cls : Value) (d : Option Addr) (i : Option Nat) (x : XV) : Yc := ⟨fun _ _ _ _ => False, some (a, cls, d), cxO i x⟩
def tSu (K : PySem.W.Frag) (Ok : XV → Prop) (i : Option Nat) (rs : XV → RS) : TSu := fun a cls d D σ H => ∃ x, Ok x ∧ tEvS K (ySu a cls d i x) (rs x) D σ H
theorem hw_nil {K : PySem.W.Frag} {y_ : Yc} : HwR K y_ (fun x env m => some (.xc x, env, m)) [] := fun cls d x σ H D Z ph env m re wd rx q => q ph H σ Sx.refl wd re cls d rx
theorem set_rep {K : PySem.W.Frag} {y_ : Yc} {Z : Addr → Prop} {ph : List Addr} {H : Hp} {σ : L2.St} {env : Env} {i : Option Nat} {a : Addr} {cls : Value} {d : Option Addr} {x : XV} (re : RepE K y_ Z ph H σ env) (rx : RepX K Z ph H cls d x) (hk : okSl env i = true) : RepE K (ySu a cls d i x) Z ph H (slotO i a σ) (setO env i) := by
  cases i with
  | none => exact ⟨re.len, re.at_, fun j x e => by cases e⟩
  | some i =>
    have hi : i < env.length := of_decide_eq_true hk
    have r0 : RepE K (ySu a cls d none x) Z ph H σ env := ⟨re.len, re.at_, fun j x e => by cases e⟩
    have r1 := r0.any i (some (.ref a)) (fun j x e => by cases e)
    refine ⟨r1.len, r1.at_, fun j x' e => ?_⟩
    cases e
    exact ⟨a, cls, d, rfl, by show (σ.set i _)[i]? = _; rw [List.getElem?_set_self (by rw [re.len]; exact hi)], rx⟩
theorem out_rep {K : PySem.W.Frag} {y_ : Yc} {Z : Addr → Prop} {ph : List Addr} {H : Hp} {D : Ends} {i : Option Nat} {a : Addr} {cls : Value} {d : Option Addr} {x : XV} {r : R} (hcx : y_.cx = none) (q : FinS K y_ Z ph H (outH i r) D) : FinS K (ySu a cls d i x) Z ph H r (endsO i D) := by
  cases r with
  | none => exact q
  | some r =>
    obtain ⟨fl, env1, m1⟩ := r
    have off : ∀ j, y_.off j := fun j k x e => by rw [hcx] at e; cases e
    intro ph' H' σ' s w re'
    have re2 : RepE K y_ Z ph' H' σ' env1 := re'.plain hcx
    cases i with
    | none =>
      cases fl with
      | xc x => exact q.elim
      | nx => exact q ph' H' σ' s w re2
      | bk => exact q ph' H' σ' s w re2
      | ct => exact q ph' H' σ' s w re2
      | rt d => exact q ph' H' σ' s w re2
    | some i =>
      have re3 := re2.unset i (off i)
      cases fl with
      | xc x => exact q.elim
      | nx => exact q ph' H' _ s w re3
      | bk => exact q ph' H' _ s w re3
      | ct => exact q ph' H' _ s w re3
      | rt d => exact q ph' H' _ s w re3
theorem hw_cons {K : PySem.W.Frag} {y_ : Yc} {rh : XV → RS} {rs : XV → RS} {l : List (Value × Option Nat × TSu)} {i : Option Nat} {c : Value} {yes no : List Str} (hcx : y_.cx = none)
    (hm : ∀ Z ph H cls d x, RepX K Z ph H cls d x → (x.nm ∈ yes → PySem.W.exmOne K cls c = some true) ∧ (x.nm ∈ no → PySem.W.exmOne K cls c = some false))
    (h : HwR K y_ rh l) : HwR K y_ (fun x env m => if x.nm ∈ yes then (if okSl env i then outH i (rs x (setO env i) m) else none) else if x.nm ∈ no then rh x env m else none) ((c, i, tSu K (fun x => x.nm ∈ yes) i rs) :: l) := fun cls d x σ H D Z ph env m re wd rx q => by
  by_cases hy : x.nm ∈ yes
  · simp only [if_pos hy] at q
    refine ⟨true, (hm _ _ _ _ _ _ rx).1 hy, fun _ a na => ?_, fun hb => by cases hb⟩
    split at q
    · rename_i hk
      exact ⟨x, hy, Z, ph, setO env i, m, set_rep re rx hk, wd, out_rep hcx q⟩
    · exact q.elim
  · simp only [if_neg hy] at q
    split at q
    · rename_i hn
      exact ⟨false, (hm _ _ _ _ _ _ rx).2 hn, fun hb => (by cases hb), fun _ => h cls d x σ H D Z ph env m re wd rx q⟩
    · exact q.elim
end
end Pv

namespace Pv
open PySem PySem.Spec PyProof.Rows L2
variable [TabT]

/-! ## isinstance of what a suite holds: an exception with fields -/
theorem found_cls {K : PySem.W.Frag} {C : Addr} (hd : PySem.W.hasDictIn K C = true) (T : IsC K C) (od : Option Obj) : PySem.W.findObj K C od "__class__" = some (.bind (.builtin "getset_descriptor.__get__") (.builtin "object.__class__")) := by
  obtain ⟨cd, hc, _⟩ := PySem.W.any_some hd
  have h1 := T.ha
  have h2 := T.hn
  have h3 := T.ht
  simp only [PySem.W.findObj, hc, h1, h2, h3, Option.bind_some]
theorem cls_exc {P : Program} {w : World} {A : Around} {E : Value → Shared → Prop} {s : Shared} {K : PySem.W.Frag} {x C : Addr} {ox : Obj} {od : Option Obj} {Q : Option Value → Shared → Prop} (T : XfC K C) (J : IsC K C)
    (X : K.In s.heap) (I : PySem.W.InstAt s.heap x ox C od) (h : Q (some (.ref C)) { s with toks := s.toks + 1 }) : wpAny (model P w) A (getAttr? (.ref x) "__class__") Q E s := by
  have hf := found_cls T.hdC J od
  obtain ⟨hp, g, d, t, os⟩ := s
  have l0 := I.type (M := model P w)
  have l1 := PySem.W.looks_findIn (M := model P w) X T.ga
  have l2 := PySem.W.looks_findIn (M := model P w) X T.gg
  have l3 := PySem.W.looks_find (M := model P w) X I hf
  have sub : PySem.W.Looks (model P w) hp (isInstance (.ref x) (.type "BaseException")) true := l0.andThen (PySem.W.looks_subIn X T.exC)
  have n2 : (Value.builtin "BaseException.__getattribute__" == Value.builtin "object.__getattribute__") = false := by decide +kernel
  have n1 : (onTheHeap (Value.ref C) && Value.builtin "BaseException.__getattribute__" == Value.builtin "object.__getattribute__") = false := by rw [n2]; rfl
  have n0 : (false && onTheHeap (Value.builtin "BaseException.__getattribute__")) = false := rfl
  unfold getAttr? getAttrBy? getAttrBy
  refine wpAny_bind (wpAny_mkText (wpAny_bind (wpAny_attempt (PySem.wpAny_holding (wpAny_bind (l0.at (wpAny_bind (l1.at ?_))))))))
  show wpAny _ _ (if (onTheHeap (Value.ref C) && Value.builtin "BaseException.__getattribute__" == Value.builtin "object.__getattribute__") = true then _ else _) _ _ _
  rw [n1, if_neg Bool.false_ne_true]
  unfold getAttrByItsOwn hookBefore
  refine wpAny_bind ?_
  rw [if_pos (show onTheHeap (Value.ref C) = true from rfl)]
  refine l2.at (wpAny_bind (wpAny_attempt (PySem.wpAny_holding ?_)))
  unfold callGetattribute
  rw [n0, if_neg Bool.false_ne_true]
  unfold boundAndCalled
  rw [PySem.F.excAttr_ValueError.ga.bind (.ref x)]
  refine wpAny_bind (wpAny_pure ?_)
  show wpAny _ _ (call (.builtin "BaseException.__getattribute__") [.ref x, .str "__class__" t]) _ _ _
  refine wpAny_call (codeAny_call_builtin PySem.F.excAttr_ValueError.ga.plain PySem.F.entry_bexc_ga ?_)
  refine @PySem.W.check_slot (model P w) _ _ ⟨hp, g, d, t + 1, os⟩ "BaseException.__getattribute__" "BaseException" "__getattribute__" (.ref x) [.str "__class__" t] [] _ (by decide +kernel) (by decide +kernel) sub (PySem.F.args_bexc_ga (.ref x) (.str "__class__" t)) ?_
  unfold Builtin.«object.__getattribute__»
  refine wpAny_bind (wpAny_of_eq (a := ((Value.ref x : Value), [Value.str "__class__" t])) (by first | rfl | (simp only [slotArgs]; rfl)) ?_)
  refine wpAny_bind (wpAny_pure (wpAny_bind (l0.at (wpAny_bind (l3.at ?_)))))
  show wpAny _ _ (holding [Value.builtin "object.__class__"] (call (.builtin "getset_descriptor.__get__") [.builtin "object.__class__", .ref x, .ref C]) >>= ret) _ _ _
  refine wpAny_bind (PySem.wpAny_holding (wpAny_call (PySem.W.class_get (s := ⟨hp, g, d, t + 1, os⟩) (ox := ox) (od := od) X I J.hm ?_)))
  refine wpAny_pure ?_
  show wpAny _ _ (handedOut (.ref C)) _ _ _
  rw [PySem.W.handedOut_of (v := .ref C) rfl]
  first
    | exact wpAny_pure (wpAny_pure h)
    | exact wpAny_pure h
    | exact wpAny_pure (wpAny_bind (wpAny_pure (wpAny_pure h)))
theorem kit_exc {K : PySem.W.Frag} {x C : Addr} {ox : Obj} {od : Option Obj} (T : XfC K C) (J : IsC K C) : PySem.W.KitX K (.ref x) (.ref C) (fun h => PySem.W.InstAt h x ox C od) where
  ty := fun _ _ _ I => I.type
  it := fun _ _ X _ => by
    obtain ⟨cd, hc, _⟩ := PySem.W.any_some T.hdC
    unfold PySem.W.clsIn at hc
    split at hc
    · rename_i ho
      intro A' Q' E' s' k q
      unfold isType loadHead
      exact wpAny_bind (wpAny_loadPart (k _ _ (X _ _ ho)) (wpAny_pure q))
    · cases hc
  ne := fun h tp dd its n sl X htp => by
    obtain ⟨cd, hc, _⟩ := PySem.W.any_some T.hdC
    refine Bool.eq_false_iff.mpr fun q => ?_
    obtain rfl : C = tp := Value.ref.inj (beq_iff_eq.mp q)
    unfold PySem.W.clsIn at hc
    split at hc
    · rename_i ho
      cases (X _ _ ho).symm.trans htp
    · cases hc
  ca := fun X I k => cls_exc T J X I k
/-- isinstance(e, C), isinstance(e, (C, ..)), e the exception of the suite at a, its class D, its dict at dx -/
def rIsX (K : PySem.W.Frag) (D a dx : Addr) : List V → Hp → VK → Prop := fun xs H Q => (∃ fvs, H dx = some (.xd fvs)) ∧
  ((∃ (c : Addr) (b : Bool), xs = [.ref a, .ref c] ∧ PySem.W.kitOne K (.ref D) (.ref c) = some b ∧ Q (.bl b) H) ∨
    (∃ (tp : Addr) (cs : List Addr) (b : Bool), xs = [.ref a, .ref tp] ∧ H tp = some (.tup (cs.map V.ref)) ∧ PySem.W.kitAny K (.ref D) (cs.map Value.ref) = some b ∧ Q (.bl b) H))
theorem vals_refs : ∀ {cs : List Addr} {us : List Value}, Vals (cs.map V.ref) us → us = cs.map Value.ref
  | [], _, .nil => rfl
  | c :: cs, _, .cons r t => by
    have h1 : _ = Value.ref c := r
    rw [h1, vals_refs t]; rfl
theorem call_isX {X : Cx} {a D dx : Addr} {oe : Obj} {pn : List (Addr × Obj)} (T : XfC X.K D) (J : IsC X.K D) (hz : Zc (.ref D) (some dx) oe) (hf : ∃ vs, oe.data = .fields vs) : CallR (X.suite a ((a, oe) :: pn)) (.builtin "isinstance") (rIsX X.K D a dx) := by
  intro pins s σ H xs us Q I r ⟨⟨fvs, ed⟩, h⟩
  obtain ⟨ha, _⟩ := I.pin (a, oe) (List.mem_append_left _ List.mem_cons_self)
  obtain ⟨vs, hd⟩ := hf
  have hx : ObjOk X.prog X.w H s.heap dx (.xd fvs) := I.hok dx _ ed
  obtain ⟨mA, hns, hr⟩ := hx
  obtain ⟨od, ho, hl⟩ := lookIn_ns hns
  have W : PySem.W.InstAt s.heap a oe D (some od) := ⟨ha, hz.1, by unfold PySem.W.notCls; rw [hd] <;> rfl, by rw [hz.2]; exact ho⟩
  rcases h with ⟨c, b, rfl, e, q⟩ | ⟨tp, cs, b, rfl, et, e, q⟩
  · obtain ⟨u1, u2, rfl, r1, r2⟩ := vals2 r
    cases (show u1 = Value.ref a from r1)
    cases (show u2 = Value.ref c from r2)
    exact PySem.W.kia_one (kit_exc T J) I.kIn W e (fun z => nomatch z) fun tk => ⟨.bl b, H, I.tok tk, rfl, q⟩
  · obtain ⟨u1, u2, rfl, r1, r2⟩ := vals2 r
    cases (show u1 = Value.ref a from r1)
    cases (show u2 = Value.ref tp from r2)
    obtain ⟨_, its, rv, o, h1, h2, n, h3⟩ := (show ObjOk X.prog X.w H s.heap tp (.tup (cs.map V.ref)) from I.hok tp _ et)
    have e3 := vals_refs rv
    subst e3
    obtain ⟨oc, od', dt, sl⟩ := o
    simp only at h2 h3
    subst h2 h3
    exact PySem.W.kia_tup (kit_exc T J) I.kIn W h1 e (fun z => nomatch z) fun tk => ⟨.bl b, H, I.tok tk, rfl, q⟩
/-- a class or a tuple of classes -/
inductive CsE (X : Cx) : List Addr → Expr → Prop
  | one {c : Addr} {x : Str} {p : Pos} (h : PE X (.Name x p) (tC (.ref c))) : CsE X [c] (.Name x p)
  | tup {cs : List Addr} {xs : List Expr} {k : Nat} {p : Pos} (h : PA X xs (fun σ H Q => Q (cs.map V.ref) H)) (hl : cs.length ≤ sizeLine) : CsE X cs (.Tuple xs k p)
section
variable {X : Cx} {y_ : Yc} {pos p p2 : Pos}
theorem n_xis {S : Sx_} {i : Nat} {s : Str} {yes : List Str} {cs : List Addr} {ty : Expr} (hX : XOk X S y_) (hg : Gl X "isinstance") (hm : X.mg "isinstance" = none)
    (hcl : ∀ n ∈ S.xn, ∃ C, PySem.W.nsIn X.K mainGlobals n = some (some (.ref C)) ∧ XfC X.K C ∧ IsC X.K C ∧ PySem.W.kitAny X.K (.ref C) (cs.map Value.ref) = some (decide (n ∈ yes))) (hv : PE X (.Name s p) (tVar i)) (hc : CsE X cs ty) :
    PE X (.Call (.Name "isinstance" p2) [.Name s p, ty] [] pos) (tEv X.K y_ fun _ m => .of (xisD i yes y_.cx) m) := by
  refine ⟨fun pins s_ σ H Q I ⟨Z, ph, env, m, re, wd, q⟩ => ?_⟩
  obtain ⟨z, hz, qz⟩ := q.pv
  cases hcx : y_.cx with
  | none => rw [hcx] at hz; simp [xisD] at hz
  | some jx =>
    obtain ⟨j, x⟩ := jx
    rw [hcx] at hz
    simp only [xisD] at hz
    split at hz
    · rename_i hij
      subst hij
      cases hz
      obtain ⟨a, cls, d, e1, e2, C, dx, fvs, rfl, rfl, e3, e4, rf⟩ := re.xc i x hcx
      obtain ⟨X', oe, pn, eX, hZ, hfv⟩ := hX.pin a _ _ e1
      obtain ⟨C', h1, h2, h3, h4⟩ := hcl x.nm (hX.xs i x hcx).2
      have := ns_one e3 h1
      subst this
      subst eX
      cases hc with
      | @one c x' p' hc =>
        refine (pe_callB (call_isX (X := X') h2 h3 hZ hfv) hg hm (by decide +kernel) (pa_cons hv (pa_cons hc pa_nil rfl) rfl)).run pins s_ σ H Q I ?_
        refine ⟨_, e2, ⟨fvs, e4⟩, .inl ⟨c, decide (x.nm ∈ yes), rfl, ?_, qz.here wd (.bl _)⟩⟩
        simp only [List.map_cons, List.map_nil, PySem.W.kitAny] at h4
        cases hk : PySem.W.kitOne X'.K (.ref C) (.ref c) with
        | none => rw [show (X'.suite a ((a, oe) :: pn)).K = X'.K from rfl, hk] at h4; cases h4
        | some b => rw [show (X'.suite a ((a, oe) :: pn)).K = X'.K from rfl, hk] at h4; cases b <;> exact h4
      | @tup _ xs k p' hc hl =>
        refine (pe_callB (call_isX (X := X') h2 h3 hZ hfv) hg hm (by decide +kernel) (pa_cons hv (pa_cons (pe_tup hc) pa_nil rfl) rfl)).run pins s_ σ H Q I ?_
        refine ⟨_, e2, by simpa using hl, fun tp ht => ⟨⟨fvs, by rw [upd_ne (ne_of_none e4 ht)]; exact e4⟩, .inr ⟨tp, cs, decide (x.nm ∈ yes), rfl, upd_same, h4, ?_⟩⟩⟩
        exact qz ph (upd H tp (.tup (cs.map V.ref))) (.bl _) (Sx.upd ht) (wd.new ht) (.bl _)
    · cases hz
end
end Pv

namespace Pv
open PySem L2
variable [TabT]

/-! ## the check: this term of ours is that expression of the row -/
/-- a class: its name, the names of its instances' attributes -/
structure ClD where
  nm : Str
  at_ : List Str
/-- the tables: defs, constants, exceptions, classes -/
structure Tb where
  T : List FnD
  G : List (Str × D)
  X : List XC
  C : List ClD
  Q : List Str := []
  D : List (Str × List (Str × D)) := []
def Tb.xf (B : Tb) (c : Str) : Option (List Str) := (B.X.find? fun t => decide (t.nm = c)).map (·.fs)
/-- all names of classes of exceptions that are known -/
def Tb.qs (B : Tb) : List Str := B.X.map (·.nm) ++ B.Q
def Sx_.blk (S : Sx_) (scope : Scope) : Sx_ := ⟨S.N, relS scope S.sc, fun x => scope.names.lookup x == some .cell, true, none, [], false⟩
def Sx_.suite (S : Sx_) (i : Option Nat) (yes : List Str) : Sx_ := ⟨S.N, S.sc, S.fb, false, i, yes, false⟩
def visB (S : Sx_) (x : Str) : Bool := (match S.sc.names.lookup x with
  | some .local => true
  | some .cell => true
  | some .free => true
  | _ => false) && !(x == ("__debug__" : Str)) && !(x == ("__classdict__" : Str))
def glB (S : Sx_) (x : Str) : Bool := decide (S.sc.names.lookup x = some .globalImplicit) && !(x == ("__debug__" : Str))
def conB : D → Const → Bool
  | .non, .none => true
  | .bl b, .bool b' => b == b'
  | .int i, .int j => decide (i = j)
  | .str x, .str y => decide (x = y)
  | _, _ => false
def isNew : E → Bool
  | .lst _ => true
  | .comp .. => true
  | .compIf .. => true
  | .comp2 .. => true
  | .compR .. => true
  | .compIR .. => true
  | .listRg _ => true
  | .sortK .. => true
  | .bi .list _ => true
  | .bin .add _ _ => true
  | .bin .mul _ _ => true
  | _ => false
def isTupE : Expr → Bool
  | .Tuple .. => true
  | _ => false
/-- a receiver whose attribute is asked of itself -/
def bsB : Expr → Bool
  | .Name .. => true
  | .Attribute .. => true
  | .Call (.Name _ _) (_ :: _) _ _ => true
  | .Call (.Attribute _ _ _) _ _ _ => true
  | .Subscript .. => true
  | .List .. => true
  | .ListComp .. => true
  | .Constant .. => true
  | _ => false
/-- the names of a class, of a tuple of classes -/
def nmsB (S : Sx_) : List Str → List Expr → Bool
  | [], [] => true
  | c :: cs, .Name d _ :: r => decide (d = c) && glB S c && nmsB S cs r
  | _, _ => false
def clsB (S : Sx_) (cs : List Str) : Expr → Bool
  | .Name d _ => decide (cs = [d]) && glB S d
  | .Tuple xs _ _ => decide (cs.length < 100) && nmsB S cs xs
  | _ => false
/-! the body of a lambda: it leaves all as it is -/
mutual
def isK (S : Sx_) : E → Expr → Bool
  | .var i, x => match x with
    | .Name s _ => decide (S.N[i]? = some s) && visB S s
    | _ => false
  | .con d, x => match x with
    | .Constant c _ _ => conB d c
    | _ => false
  | .bin op a b, x => match x with
    | .BinOp l o r _ => bopB op o && isK S a l && isK S b r
    | _ => false
  | .neg a, x => match x with
    | .UnaryOp .USub y _ => isK S a y
    | _ => false
  | .ix a b, x => match x with
    | .Subscript l r _ => isK S a l && isK S b r
    | _ => false
  | .tup as, x => match x with
    | .Tuple xs _ _ => isKs S as xs
    | _ => false
  | _, _ => false
def isKs (S : Sx_) : Es → List Expr → Bool
  | .nil, xs => match xs with
    | [] => true
    | _ => false
  | .cons e es, xs => match xs with
    | x :: r => isK S e x && isKs S es r
    | _ => false
end
def lamB (S : Sx_) (i : Nat) (scope : Scope) (ps : Arguments) : Bool := match ps with
  | ⟨[], [⟨p, _, _⟩], none, [], [], none, []⟩ => decide (S.N[i]? = some p) && lmSB S.sc scope p
  | _ => false
/-- sorted(range(z), key=lambda ..) -/
def lamP : Expr → Option (Arguments × Expr × Scope)
  | .Lambda params body scope _ => some (params, body, scope)
  | _ => none
def rngP : Expr → Option (Str × Expr)
  | .Call (.Name ty _) [z] [] _ => some (ty, z)
  | _ => none
def sortP : Expr → Option (Str × Str × Expr × Str × Arguments × Expr × Scope)
  | .Call (.Name nm _) [r] [⟨some kw, l, _⟩] _ => match rngP r, lamP l with
    | some (ty, z), some (params, body, scope) => some (nm, ty, z, kw, params, body, scope)
    | _, _ => none
  | _ => none
theorem lamP_some {x : Expr} {params : Arguments} {body : Expr} {scope : Scope} (h : lamP x = some (params, body, scope)) : ∃ p, x = .Lambda params body scope p := by
  unfold lamP at h
  split at h <;> cases h
  exact ⟨_, rfl⟩
theorem rngP_some {x : Expr} {ty : Str} {z : Expr} (h : rngP x = some (ty, z)) : ∃ p q, x = .Call (.Name ty p) [z] [] q := by
  unfold rngP at h
  split at h <;> cases h
  exact ⟨_, _, rfl⟩
theorem sortP_some {x : Expr} {nm ty kw : Str} {z body : Expr} {params : Arguments} {scope : Scope} (h : sortP x = some (nm, ty, z, kw, params, body, scope)) :
    ∃ p1 p2 p3 p4 p5 p6, x = .Call (.Name nm p1) [.Call (.Name ty p2) [z] [] p3] [⟨some kw, .Lambda params body scope p4, p5⟩] p6 := by
  unfold sortP at h
  split at h
  · split at h
    · rename_i h1 h2
      cases h
      obtain ⟨p2, p3, rfl⟩ := rngP_some h1
      obtain ⟨p4, rfl⟩ := lamP_some h2
      exact ⟨_, _, _, _, _, _, rfl⟩
    · cases h
  · cases h
/-- min(z, key=lambda ..) -/
def minP : Expr → Option (Str × Expr × Str × Arguments × Expr × Scope)
  | .Call (.Name nm _) [z] [⟨some kw, l, _⟩] _ => match lamP l with
    | some (params, body, scope) => some (nm, z, kw, params, body, scope)
    | none => none
  | _ => none
theorem minP_some {x : Expr} {nm kw : Str} {z body : Expr} {params : Arguments} {scope : Scope} (h : minP x = some (nm, z, kw, params, body, scope)) :
    ∃ p1 p2 p3 p4, x = .Call (.Name nm p1) [z] [⟨some kw, .Lambda params body scope p2, p3⟩] p4 := by
  unfold minP at h
  split at h
  · split at h
    · rename_i h2
      cases h
      obtain ⟨p4, rfl⟩ := lamP_some h2
      exact ⟨_, _, _, _, rfl⟩
    · cases h
  · cases h
/-- range(z) with a z -/
def rgP : Expr → Option (Str × Expr)
  | .Call (.Name nm _) [z] [] _ => some (nm, z)
  | _ => none
theorem rgP_some {x z : Expr} {nm : Str} (h : rgP x = some (nm, z)) : ∃ p q, x = .Call (.Name nm p) [z] [] q := by
  unfold rgP at h
  split at h <;> cases h
  exact ⟨_, _, rfl⟩
def Sx_.lam (S : Sx_) (scope : Scope) : Sx_ := ⟨S.N, scope, fun _ => false, true, none, [], false⟩
section
variable (B : Tb)
def fnB (f : Nat) (nm : Str) : Bool := match B.T[f]? with
  | some fd => decide (fd.nm = nm) && decide (fd.cl = Str.empty) && fd.df.isEmpty
  | none => false
def fnDB (f : Nat) (nm : Str) (dfs : List D) : Bool := match B.T[f]? with
  | some fd => decide (fd.nm = nm) && decide (fd.cl = Str.empty) && decide (fd.df = dfs)
  | none => false
def mtB (f : Nat) (c nm : Str) : Bool := match B.T[f]? with
  | some fd => decide (fd.nm = nm) && decide (fd.cl = c) && !decide (c = Str.empty) && fd.df.isEmpty
  | none => false
def atB (c f : Str) : Bool := B.C.any fun k => decide (k.nm = c) && decide (f ∈ k.at_)
/-- the body of a lambda: a key, or one call -/
def lamK (S : Sx_) : E → Expr → Bool
  | .callG f as, x => match x with
    | .Call (.Name nm _) (z :: zs) [] _ => fnB B f nm && glB S nm && isKs S as (z :: zs)
    | _ => false
  | k, x => isK S k x
mutual
def isE (S : Sx_) : E → Expr → Bool
  | .nop, _ => false
  | .var i, x => match x with
    | .Name s _ => decide (S.N[i]? = some s) && visB S s
    | _ => false
  | .con d, x => match x with
    | .Constant c _ _ => conB d c
    | _ => false
  | .glob k, x => match x with
    | .Name s _ => decide ((B.G[k]?).map (·.1) = some s) && glB S s
    | _ => false
  | .bin op a b, x => match x with
    | .BinOp l o r _ => bopB op o && isE S a l && isE S b r
    | _ => false
  | .neg a, x => match x with
    | .UnaryOp .USub y _ => isE S a y
    | _ => false
  | .cmp op a b, x => match x with
    | .Compare l [o] [r] _ => copB op o && isE S a l && isE S b r
    | _ => false
  | .chain o p a b c, x => match x with
    | .Compare l [o', p'] [r, r'] _ => copB o o' && copB p p' && isE S a l && isE S b r && isE S c r'
    | _ => false
  | .isN a, x => match x with
    | .Compare l [.Is] [.Constant .none _ _] _ => isE S a l
    | _ => false
  | .notN a, x => match x with
    | .Compare l [.IsNot] [.Constant .none _ _] _ => isE S a l
    | _ => false
  | .and_ a b, x => match x with
    | .BoolOp .And (l :: r :: rest) pos => isE S a l && isE S b (.BoolOp .And (r :: rest) pos)
    | _ => false
  | .and1 a, x => match x with
    | .BoolOp .And [l] _ => isE S a l
    | _ => false
  | .or_ a b, x => match x with
    | .BoolOp .Or (l :: r :: rest) pos => isE S a l && isE S b (.BoolOp .Or (r :: rest) pos)
    | _ => false
  | .or1 a, x => match x with
    | .BoolOp .Or [l] _ => isE S a l
    | _ => false
  | .not_ a, x => match x with
    | .UnaryOp .Not y _ => isE S a y
    | _ => false
  | .ife c a b, x => match x with
    | .IfExp t l r _ => isE S c t && isE S a l && isE S b r
    | _ => false
  | .call f as, x => match x with
    | .Call (.Name nm _) xs [] _ => S.calm && fnB B f nm && glB S nm && isEs S as xs
    | _ => false
  | .callG f as, x => match x with
    | .Call (.Name nm _) xs [] _ => S.calm && fnB B f nm && glB S nm && isEs S as xs
    | _ => false
  | .callF f as, x => match x with
    | .Call (.Name nm _) xs [] _ => S.calm && fnB B f nm && glB S nm && isEs S as xs
    | _ => false
  | .callD _ f as dfs, x => match x with
    | .Call (.Name nm _) xs [] _ => S.calm && fnDB B f nm dfs && glB S nm && isEs S as xs
    | _ => false
  | .meth a c nm f as, x => match x with
    | .Call (.Attribute o n ap) xs [] cp => S.calm && !decide (nm = "__init__") && decide (n = nm) && mtB B f c nm && (ap.endLine == cp.line) && decide (xs.length < 29) && bsB o && isE S a o && isEs S as xs
    | _ => false
  | .methG a c nm f as, x => match x with
    | .Call (.Attribute o n ap) xs [] cp => S.calm && !decide (nm = "__init__") && decide (n = nm) && mtB B f c nm && (ap.endLine == cp.line) && decide (xs.length < 29) && bsB o && isE S a o && isEs S as xs
    | _ => false
  | .mk c f as, x => match x with
    | .Call (.Name nm _) xs [] _ => S.calm && decide (nm = c) && mtB B f c "__init__" && glB S nm && isEs S as xs
    | _ => false
  | .attr a c f, x => match x with
    | .Attribute o g _ => decide (g = f) && atB B c f && bsB o && isE S a o
    | _ => false
  | .xat i f, x => match x with
    | .Attribute (.Name s _) g _ => decide (g = f) && decide (S.N[i]? = some s) && visB S s && S.xn.all (fun n => B.X.any fun t => decide (t.nm = n) && decide (f ∈ t.fs))
    | _ => false
  | .xis i cs yes, x => match x with
    | .Call (.Name nm _) [.Name s _, ty] [] _ => decide (nm = "isinstance") && glB S nm && decide (S.N[i]? = some s) && visB S s && clsB S cs ty && cs.all (fun c => decide (c ∈ B.qs)) && S.xn.all (fun n => B.X.any fun t => decide (t.nm = n)) && B.X.all (fun t => decide (t.nm ∈ t.sup) && (decide (t.nm ∈ yes) == cs.any fun c => decide (c ∈ t.sup)))
    | _ => false
  | .dnew, x => match x with
    | .Dict [] [] _ => true
    | _ => false
  | .dget a b, x => match x with
    | .Call (.Attribute o n ap) [y] [] cp => decide (n = "get") && (ap.endLine == cp.line) && bsB o && isE S a o && isE S b y
    | _ => false
  | .dgetD _ _ _, _ => false
  | .dcomp own t it k e, x => match x with
    | .DictComp kz z [⟨tg, i, [], a⟩] scope _ => S.calm && decide (S.xs = none) && decide (a = 0) && blkC S.N S.sc scope own && tgIn (own.map (·.2)) t && isI S it i (isTupE tg) && isTg (S.blk scope) t tg && isE (S.blk scope) k kz && isE (S.blk scope) e z
    | _ => false
  | .compR own t v e, x => match x with
    | .ListComp z [⟨tg, i, [], a⟩] scope _ => S.calm && decide (S.xs = none) && decide (a = 0) && blkC S.N S.sc scope own && tgIn (own.map (·.2)) t && isE S v i && isTg (S.blk scope) t tg && isE (S.blk scope) e z
    | _ => false
  | .compIR own t v c e, x => match x with
    | .ListComp z [⟨tg, i, [y], a⟩] scope _ => S.calm && decide (S.xs = none) && decide (a = 0) && blkC S.N S.sc scope own && tgIn (own.map (·.2)) t && isE S v i && isTg (S.blk scope) t tg && isE (S.blk scope) c y && isE (S.blk scope) e z
    | _ => false
  | .gin nm t ng a, x => match x with
    | .Compare l [o] [.Name s _] _ => decide (s = nm) && glB S s && decide ((nm, t) ∈ B.D) && copB (bif ng then .notin else .isin) o && isE S a l
    | _ => false
  | .gix nm t a, x => match x with
    | .Subscript (.Name s _) r _ => decide (s = nm) && glB S s && decide ((nm, t) ∈ B.D) && isE S a r
    | _ => false
  | .stp a c, x => match x with
    | .Subscript l (.Slice none none (some r) _) _ => isE S a l && isE S c r
    | _ => false
  | .bi b as, x => match x with
    | .Call (.Name nm _) (z :: zs) [] _ => (S.calm || !calmB b) && decide (nm = biNm b) && glB S nm && isEs S as (z :: zs)
    | _ => false
  | .isi a t, x => match x with
    | .Call (.Name nm _) [z, .Name ty _] [] _ => decide (nm = "isinstance") && glB S nm && decide (ty = tyNm t) && glB S ty && isE S a z
    | _ => false
  | .listRg a, x => match x with
    | .Call (.Name nm _) [.Call (.Name ty _) [z] [] _] [] _ => S.calm && decide (nm = "list") && glB S nm && decide (ty = "range") && glB S ty && isE S a z
    | _ => false
  | .minK a i k, x => match minP x with
    | some (nm, z, kw, params, body, scope) => S.calm && S.lm && decide (nm = "min") && glB S nm && decide (kw = "key") && lamB S i scope params && lamK B (S.lam scope) k body && isE S a z
    | none => false
  | .sortK a i k, x => match sortP x with
    | some (nm, ty, z, kw, params, body, scope) => S.calm && S.lm && decide (nm = "sorted") && glB S nm && decide (ty = "range") && glB S ty && decide (kw = "key") && lamB S i scope params && isK (S.lam scope) k body && isE S a z
    | none => false
  | .ix a b, x => match x with
    | .Subscript l r _ => isE S a l && isE S b r
    | _ => false
  | .sl a lo hi, x => match x with
    | .Subscript l (.Slice r r' none _) _ => isE S a l && (match r with
        | none => isNop lo
        | some z => !isNop lo && isE S lo z) && (match r' with
        | none => isNop hi
        | some z => !isNop hi && isE S hi z)
    | _ => false
  | .tup as, x => match x with
    | .Tuple xs _ _ => isEs S as xs
    | _ => false
  | .lst as, x => match x with
    | .List xs _ => isEs S as xs
    | _ => false
  | .comp own t it e, x => match x with
    | .ListComp z [⟨tg, i, [], a⟩] scope _ => S.calm && decide (S.xs = none) && decide (a = 0) && blkC S.N S.sc scope own && tgIn (own.map (·.2)) t && isI S it i (isTupE tg) && isTg (S.blk scope) t tg && isE (S.blk scope) e z
    | _ => false
  | .compIf own t it c e, x => match x with
    | .ListComp z [⟨tg, i, [y], a⟩] scope _ => S.calm && decide (S.xs = none) && decide (a = 0) && blkC S.N S.sc scope own && tgIn (own.map (·.2)) t && isI S it i (isTupE tg) && isTg (S.blk scope) t tg && isE (S.blk scope) c y && isE (S.blk scope) e z
    | _ => false
  | .comp2 own t it vs1 t1 b c e, x => match x with
    | .ListComp z [⟨tg, i, [], a⟩, ⟨tg1, i1, [y], a1⟩] scope _ => match rgP i1 with
      | some (nm, w) => S.calm && decide (S.xs = none) && decide (a = 0) && decide (a1 = 0) && blkC S.N S.sc scope own && tgIn (own.map (·.2)) t && tgIn vs1 t1 && vs1.all (fun i => decide (i ∈ own.map (·.2))) && isI S it i (isTupE tg) && isTg (S.blk scope) t tg && isTg (S.blk scope) t1 tg1 && decide (nm = "range") && glB (S.blk scope) nm && isE (S.blk scope) b w && isE (S.blk scope) c y && isE (S.blk scope) e z
      | none => false
    | _ => false
  | .box a, x => isNew a && isE S a x
  | .pop a, x => match x with
    | .Call (.Attribute o nm ap) [] [] pos => decide (nm = "pop") && (ap.endLine == pos.line) && bsB o && isE S a o
    | _ => false
  | .popAt a b, x => match x with
    | .Call (.Attribute o nm ap) [y] [] pos => decide (nm = "pop") && (ap.endLine == pos.line) && bsB o && isE S a o && isE S b y
    | _ => false
  | .append a b, x => match x with
    | .Call (.Attribute o nm ap) [y] [] pos => decide (nm = "append") && (ap.endLine == pos.line) && bsB o && isE S a o && isE S b y
    | _ => false
  | .rev a, x => match x with
    | .Subscript l (.Slice none none (some (.UnaryOp .USub (.Constant (.int i) _ _) _)) _) _ => decide (i = 1) && isE S a l
    | _ => false
  | .join a b, x => match x with
    | .Call (.Attribute (.Constant c k p) nm ap) [y] [] pos => decide (nm = "join") && (ap.endLine == pos.line) && isE S a (.Constant c k p) && isE S b y
    | _ => false
  | .fmt a, x => match x with
    | .FormattedValue y c none _ => decide (c = -1) && isE S a y
    | _ => false
  | .dead, x => (match x with
    | .Starred .. => false
    | .Slice .. => false
    | .Set .. => false
    | .SetComp .. => false
    | .DictComp .. => false
    | .BoolOp .. => false
    | .ListComp .. => false
    | _ => true)
  | .isB a b, x => match x with
    | .Compare l [.Is] [.Constant (.bool c) _ _] _ => decide (c = b) && isE S a l
    | _ => false
  | .index a b, x => match x with
    | .Call (.Attribute o nm ap) [y] [] pos => decide (nm = "index") && (ap.endLine == pos.line) && bsB o && isE S a o && isE S b y
    | _ => false
  | .fstr as, x => match x with
    | .JoinedStr (y :: z :: r) _ => isEs S as (y :: z :: r)
    | _ => false
def isEs (S : Sx_) : Es → List Expr → Bool
  | .nil, xs => match xs with
    | [] => true
    | _ => false
  | .cons e es, xs => match xs with
    | x :: r => isE S e x && isEs S es r
    | _ => false
def isI (S : Sx_) : It → Expr → Bool → Bool
  | .seq e, x, _ => isE S e x
  | .rng1 e, x, _ => match x with
    | .Call (.Name nm _) [z] [] _ => decide (nm = "range") && glB S nm && isE S e z
    | _ => false
  | .rng2 a b, x, _ => match x with
    | .Call (.Name nm _) [z, y] [] _ => decide (nm = "range") && glB S nm && isE S a z && isE S b y
    | _ => false
  | .zip a b, x, tp => match x with
    | .Call (.Name nm _) [z, y] [] _ => tp && decide (nm = "zip") && glB S nm && isE S a z && isE S b y
    | _ => false
  | .enum a, x, tp => match x with
    | .Call (.Name nm _) [z] [] _ => tp && decide (nm = "enumerate") && glB S nm && isE S a z
    | _ => false
  | .dvals _, _, _ => false
  | .txt e, x, _ => isE S e x
  | .zipS a b, x, tp => match x with
    | .Call (.Name nm _) [z, y] [⟨some kw, .Constant (.bool true) _ _, _⟩] _ => tp && decide (nm = "zip") && decide (kw = "strict") && glB S nm && isE S a z && isE S b y
    | _ => false
end
end

/-! ## shapes -/
def plB : Expr → Bool
  | .Starred .. => false
  | .Slice .. => false
  | .Set .. => false
  | .SetComp .. => false
  | _ => true
theorem is_pl {B : Tb} {S : Sx_} : ∀ {e : E} {x : Expr}, isE B S e x = true → plB x = true
  | .box a, x, h => by
    simp only [isE, Bool.and_eq_true] at h
    exact is_pl h.2
  | .nop, x, h => by simp [isE] at h
  | .dgetD _ _ _, x, h => by simp [isE] at h
  | .dead, x, h => by
    simp only [isE] at h
    cases x <;> first | rfl | cases h
  | .minK _ _ _, x, h => by
    simp only [isE] at h
    split at h
    · rename_i e
      obtain ⟨_, _, _, _, rfl⟩ := minP_some e
      rfl
    · cases h
  | .sortK _ _ _, x, h => by
    simp only [isE] at h
    split at h
    · rename_i e
      obtain ⟨_, _, _, _, _, _, rfl⟩ := sortP_some e
      rfl
    · cases h
  | .var _, x, h | .con _, x, h | .glob _, x, h | .bin _ _ _, x, h | .neg _, x, h | .cmp _ _ _, x, h | .chain _ _ _ _ _, x, h | .isN _, x, h | .notN _, x, h | .and_ _ _, x, h | .and1 _, x, h | .or_ _ _, x, h | .or1 _, x, h | .not_ _, x, h | .ife _ _ _, x, h | .call _ _, x, h | .callG _ _, x, h | .meth _ _ _ _ _, x, h | .methG _ _ _ _ _, x, h | .mk _ _ _, x, h | .attr _ _ _, x, h | .xat _ _, x, h | .xis _ _ _, x, h | .dnew, x, h | .dget _ _, x, h | .dcomp _ _ _ _ _, x, h | .stp _ _, x, h | .gin _ _ _ _, x, h | .gix _ _ _, x, h | .compR _ _ _ _, x, h | .compIR _ _ _ _ _, x, h | .bi _ _, x, h | .isi _ _, x, h
  | .listRg _, x, h | .ix _ _, x, h | .sl _ _ _, x, h | .tup _, x, h | .lst _, x, h | .comp _ _ _ _, x, h | .compIf _ _ _ _ _, x, h | .comp2 _ _ _ _ _ _ _ _, x, h | .pop _, x, h | .popAt _ _, x, h | .append _ _, x, h | .callF _ _, x, h | .callD _ _ _ _, x, h | .isB _ _, x, h | .index _ _, x, h | .rev _, x, h | .join _ _, x, h | .fmt _, x, h | .fstr _, x, h => by
    simp only [isE] at h
    split at h <;> first | rfl | cases h
section
variable {x : Expr} (h : plB x = true)
include h
theorem pl_star (xs : List Expr) (env : PySem.Env) : starEach (x :: xs) env = (false, eval x env) :: starEach xs env := by
  cases x <;> first | rfl | cases h
theorem pl_ix : PlainIx x := by
  cases x <;> first | (exact fun _ _ => rfl) | cases h
theorem pl_mark (op : CmpOp) : behindInMarks op x = false := by
  cases x <;> first | rfl | cases h
theorem pl_fold (env : PySem.Env) (v : Value) : foldedSetIterable x env v = pure v := by
  cases x <;> first | rfl | cases h
end
theorem any_star : ∀ (xs : List Expr) (env : PySem.Env) (pos : Pos), (∀ x ∈ xs, plB x = true) → (backTo pos (starEach xs env)).any (·.1) = false
  | [], _, _, _ => rfl
  | x :: xs, env, pos, h => by
    have ih := any_star xs env pos fun y hy => h y (List.mem_cons_of_mem _ hy)
    rw [pl_star (h x List.mem_cons_self)]
    show (false || (backTo pos (starEach xs env)).any (·.1)) = false
    rw [ih]; rfl
theorem is_pls {B : Tb} {S : Sx_} : ∀ {es : Es} {xs : List Expr}, isEs B S es xs = true → ∀ x ∈ xs, plB x = true
  | .nil, [], _ => fun _ q => nomatch q
  | .nil, _ :: _, h => by simp [isEs] at h
  | .cons e es, [], h => by simp [isEs] at h
  | .cons e es, x :: xs, h => by
    simp only [isEs, Bool.and_eq_true] at h
    intro y hy
    rcases List.mem_cons.mp hy with rfl | hy
    · exact is_pl h.1
    · exact is_pls h.2 y hy

/-! ## the context -/
def bnames : List Str := ["len", "int", "tuple", "list", "sum", "all", "any", "max", "min", "isinstance", "range", "zip", "bool", "str", "sorted", "Exception", "enumerate"]
/-- what is known of a def: of a plain one, of a method, of an __init__ -/
structure FnF (K : PySem.W.Frag) (mg : Str → Option Value) (fd : FnD) (f : Addr) : Prop where
  pl : fd.cl = Str.empty → mg fd.nm = some (.ref f)
  mt : fd.cl ≠ Str.empty → ∃ C, ClK K fd.cl C ∧ mg fd.cl = some (.ref C) ∧ (fd.nm = "__init__" → Mk K C f) ∧ (fd.nm ≠ "__init__" → Meth K C fd.nm f)
/-- the defaults of a def bind its last parameters -/
def BindsD (K : PySem.W.Frag) (fdat : FuncData) (fd : FnD) : Prop := ∃ (us : List Value) (vs : List V), Binds K fdat fd.ps us ∧ Vals vs us ∧ ∀ Z ph H, RepVs K Z ph H vs fd.df
theorem BindsD.nil {K : PySem.W.Frag} {fdat : FuncData} {fd : FnD} (h : BindsD K fdat fd) (e : fd.df.isEmpty = true) : Binds K fdat fd.ps [] := by
  obtain ⟨us, vs, b, v, r⟩ := h
  have e : fd.df = [] := List.isEmpty_iff.mp e
  rw [e] at r
  cases r (fun _ => False) [] (fun _ => none)
  cases v
  exact b
structure Cok (X : Cx) (n : Nat) (B : Tb) (F : Fn) : Prop where
  fn : ∀ (i : Nat) (fd : FnD), B.T[i]? = some fd → ∃ f fdat, FnK X.prog X.w X.K X.mg X.base n f fdat fd.ps (spF X.K fd.ps.length (F i)) ∧ BindsD X.K fdat fd ∧ PySem.W.keepIn X.K (.ref f) = true ∧ FnF X.K X.mg fd f ∧ (∀ ds m, F i ds m ≠ .no → ds.length = fd.ps.length)
  room : X.calm = true → RmB n X.A
  bl : ∀ x ∈ bnames, X.mg x = none
  gl : ∀ (i : Nat) (x : Str) (d : D), B.G[i]? = some (x, d) → ∃ v u, X.mg x = some u ∧ RelV v u ∧ ∀ Z ph H, RepV X.K Z ph H v d
  xc : ∀ t ∈ B.X, ∃ C, XcK X.prog X.w X.K X.mg X.base t C
  xm : ∀ t ∈ B.X, ∀ c ∈ B.qs, ∀ C C', PySem.W.nsIn X.K mainGlobals t.nm = some (some (.ref C)) → X.mg c = some (.ref C') → PySem.W.exmOne X.K (.ref C) (.ref C') = some (decide (c ∈ t.sup))
  xq : ∀ c ∈ B.qs, ∃ C', X.mg c = some (.ref C')
  cl : ∀ k ∈ B.C, ∃ C, ClK X.K k.nm C ∧ ∀ f ∈ k.at_, NoAttr X.K C f
  gd : ∀ p ∈ B.D, ∃ a, X.mg p.1 = some (.ref a) ∧ GdK X.K X.w a p.2
theorem Cok.blk {X : Cx} {n : Nat} {B : Tb} {F : Fn} (C : Cok X n B F) (s : Shared) (H : Hp) (scope : Scope) (env : PySem.Env) (fp : List Addr) : Cok (X.blk s H scope env fp) n B F := ⟨C.fn, C.room, C.bl, C.gl, C.xc, C.xm, C.xq, C.cl, C.gd⟩
theorem Cok.tr {X : Cx} {n : Nat} {B : Tb} {F : Fn} (C : Cok X n B F) (pn : List (Addr × Obj)) (xe : Value → Shared → Prop) : Cok (X.tr pn xe) n B F := ⟨C.fn, C.room, C.bl, C.gl, C.xc, C.xm, C.xq, C.cl, C.gd⟩
theorem Cok.suite {X : Cx} {n : Nat} {B : Tb} {F : Fn} (C : Cok X n B F) (a : Addr) (pn : List (Addr × Obj)) : Cok (X.suite a pn) n B F := ⟨C.fn, fun h => (by cases h), C.bl, C.gl, C.xc, C.xm, C.xq, C.cl, C.gd⟩
theorem takesN {X : Cx} : Takes X yN.W := takes_none5
theorem XOk.blk {X : Cx} {S : Sx_} {y : Yc} (hX : XOk X S y) (hc : S.calm = true) (s : Shared) (H : Hp) (scope : Scope) (C : Addr) (cl : List (Str × Addr)) (fp : List Addr) : XOk (X.blk s H scope (compEnvC scope cl C X.env) fp) (S.blk scope) yN := by
  refine ⟨hX.n, ?_, rfl, fun _ => hX.calm hc, hX.nd, hX.un, takesN, fun i x e => (by cases e), fun a cls d e => (by cases e), fun e => (by cases e)⟩
  show relS scope X.env.scope = relS scope S.sc
  rw [hX.sc]
theorem XOk.tr {X : Cx} {S : Sx_} {y : Yc} (hX : XOk X S y) (pn : List (Addr × Obj)) (xe : Value → Shared → Prop) (W : WX) (tk : Takes (X.tr pn xe) W) : XOk (X.tr pn xe) S ⟨W, none, none⟩ :=
  ⟨hX.n, hX.sc, hX.fb, hX.calm, hX.nd, hX.un, tk, fun i x e => (by cases e), fun a cls d e => (by cases e), fun e => ⟨(hX.lm e).ex⟩⟩
theorem XOk.suite {X : Cx} {S : Sx_} {y : Yc} (hX : XOk X S y) {a : Addr} {oe : Obj} {cls : Value} {d : Option Addr} {pn : List (Addr × Obj)} {i : Option Nat} {yes : List Str} {x : XV} (hz : Zc cls d oe) (hf : ∃ vs, oe.data = .fields vs) (hx : x.nm ∈ yes) : XOk (X.suite a ((a, oe) :: pn)) (S.suite i yes) (ySu a cls d i x) := by
  refine ⟨hX.n, hX.sc, hX.fb, fun h => (by cases h), hX.nd, hX.un, takes_none5, fun j x' e => ?_, fun a' cls' d' e => ?_, fun e => (by cases e)⟩
  · obtain ⟨k, hk, e⟩ := Option.map_eq_some_iff.mp e
    cases e
    exact ⟨hk, hx⟩
  · cases e
    exact ⟨X, oe, pn, rfl, hz, hf⟩
section
variable {X : Cx} {S : Sx_} {y : Yc} (hX : XOk X S y)
include hX
theorem visB_ok {x : Str} (h : visB S x = true) : Vis X.env.scope x ∧ (x == ("__debug__" : Str)) = false ∧ (x == ("__classdict__" : Str)) = false := by
  simp only [visB, Bool.and_eq_true, Bool.not_eq_true'] at h
  refine ⟨?_, h.1.2, h.2⟩
  unfold Vis
  rw [hX.sc]
  have h := h.1.1
  split at h
  · exact .inl (by assumption)
  · exact .inr (.inl (by assumption))
  · exact .inr (.inr (by assumption))
  · cases h
theorem glB_ok {x : Str} (h : glB S x = true) : Gl X x ∧ (x == ("__debug__" : Str)) = false := by
  simp only [glB, Bool.and_eq_true, Bool.not_eq_true', decide_eq_true_eq] at h
  refine ⟨?_, h.2⟩
  unfold Gl Env.kindOf
  rw [hX.sc]
  exact h.1
end
theorem conB_ok {d : D} {c : Const} (h : conB d c = true) : conP d c := by
  unfold conB at h
  split at h
  · trivial
  · exact eq_of_beq h
  · exact (of_decide_eq_true h : _ = _)
  · exact (of_decide_eq_true h : _ = _)
  · cases h
def isBO : E → Bool
  | .and_ .. => true
  | .and1 _ => true
  | .or_ .. => true
  | .or1 _ => true
  | _ => false
end Pv

namespace Pv
open PySem L2
variable [TabT]
theorem rz_ofm {α : Type} {o : Option α} {a : α} {m m' : M} (h : Rz.of o m = .ok a m') : m' = m := by
  unfold Rz.of at h
  split at h <;> cases h
  rfl
/-! ### the body of a lambda -/
theorem pl_nosl' {x : Expr} (h : plB x = true) : NoSl x := by
  cases x <;> first | (intro _ _; rfl) | cases h
theorem isK_pl {S : Sx_} {e : E} {x : Expr} (h : isK S e x = true) : plB x = true := by
  cases e <;> simp only [isK] at h <;> first | (cases h; done) | (split at h <;> first | rfl | cases h)
theorem isKs_pls {S : Sx_} : ∀ {es : Es} {xs : List Expr}, isKs S es xs = true → ∀ x ∈ xs, plB x = true
  | .nil, xs, h, x, hx => by
    simp only [isKs] at h
    split at h
    · cases hx
    · cases h
  | .cons e es, xs, h, x, hx => by
    simp only [isKs] at h
    split at h
    · simp only [Bool.and_eq_true] at h
      rcases List.mem_cons.mp hx with rfl | hx
      · exact isK_pl h.1
      · exact isKs_pls h.2 x hx
    · cases h
section
variable {F : Fn} {G : List D} {cx : Option (Nat × XV)} {S : Sx_}
mutual
theorem still : ∀ (e : E) (x : Expr), isK S e x = true → ∀ env m d m', evE F G cx e env m = .ok d m' → m' = m
  | .var i, x, _, env, m, d, m', h => by
    simp only [evE] at h
    split at h <;> cases h
    rfl
  | .con d, x, _, env, m, _, m', h => by
    simp only [evE] at h
    cases h
    rfl
  | .bin op a b, x, hk, env, m, d, m', h => by
    simp only [isK] at hk
    split at hk
    · simp only [Bool.and_eq_true] at hk
      simp only [evE] at h
      obtain ⟨p, m1, h1, h⟩ := rz_ok h
      obtain ⟨q, m2, h2, h⟩ := rz_ok h
      have e1 := still a _ hk.1.2 _ _ _ _ h1
      have e2 := still b _ hk.2 _ _ _ _ h2
      have e3 := rz_ofm h
      rw [e3, e2, e1]
    · cases hk
  | .neg a, x, hk, env, m, d, m', h => by
    simp only [isK] at hk
    split at hk
    · simp only [evE] at h
      obtain ⟨p, m1, h1, h⟩ := rz_ok h
      have e1 := still a _ hk _ _ _ _ h1
      have e3 := rz_ofm h
      rw [e3, e1]
    · cases hk
  | .ix a b, x, hk, env, m, d, m', h => by
    simp only [isK] at hk
    split at hk
    · simp only [Bool.and_eq_true] at hk
      simp only [evE] at h
      obtain ⟨p, m1, h1, h⟩ := rz_ok h
      obtain ⟨q, m2, h2, h⟩ := rz_ok h
      have e1 := still a _ hk.1 _ _ _ _ h1
      have e2 := still b _ hk.2 _ _ _ _ h2
      have e3 := rz_ofm h
      rw [e3, e2, e1]
    · cases hk
  | .tup as, x, hk, env, m, d, m', h => by
    simp only [isK] at hk
    split at hk
    · simp only [evE] at h
      obtain ⟨p, m1, h1, h⟩ := rz_ok h
      have e1 := stills as _ hk _ _ _ _ h1
      have e3 := rz_ofm h
      rw [e3, e1]
    · cases hk
  | (.nop), x, hk, env, m, d, m', h
  | (.glob _), x, hk, env, m, d, m', h
  | (.cmp _ _ _), x, hk, env, m, d, m', h
  | (.chain _ _ _ _ _), x, hk, env, m, d, m', h
  | (.isN _), x, hk, env, m, d, m', h
  | (.notN _), x, hk, env, m, d, m', h
  | (.and_ _ _), x, hk, env, m, d, m', h
  | (.and1 _), x, hk, env, m, d, m', h
  | (.or_ _ _), x, hk, env, m, d, m', h
  | (.or1 _), x, hk, env, m, d, m', h
  | (.not_ _), x, hk, env, m, d, m', h
  | (.ife _ _ _), x, hk, env, m, d, m', h
  | (.call _ _), x, hk, env, m, d, m', h
  | (.callG _ _), x, hk, env, m, d, m', h
  | (.callF _ _), x, hk, env, m, d, m', h
  | (.callD _ _ _ _), x, hk, env, m, d, m', h
  | (.meth _ _ _ _ _), x, hk, env, m, d, m', h
  | (.methG _ _ _ _ _), x, hk, env, m, d, m', h
  | (.mk _ _ _), x, hk, env, m, d, m', h
  | (.attr _ _ _), x, hk, env, m, d, m', h
  | (.xat _ _), x, hk, env, m, d, m', h
  | (.xis _ _ _), x, hk, env, m, d, m', h
  | (.dnew), x, hk, env, m, d, m', h
  | (.dget _ _), x, hk, env, m, d, m', h
  | (.dgetD _ _ _), x, hk, env, m, d, m', h
  | (.dcomp _ _ _ _ _), x, hk, env, m, d, m', h
  | (.stp _ _), x, hk, env, m, d, m', h
  | (.gin _ _ _ _), x, hk, env, m, d, m', h
  | (.gix _ _ _), x, hk, env, m, d, m', h
  | (.compR _ _ _ _), x, hk, env, m, d, m', h
  | (.compIR _ _ _ _ _), x, hk, env, m, d, m', h
  | (.bi _ _), x, hk, env, m, d, m', h
  | (.isi _ _), x, hk, env, m, d, m', h
  | (.listRg _), x, hk, env, m, d, m', h
  | (.sortK _ _ _), x, hk, env, m, d, m', h
  | (.minK _ _ _), x, hk, env, m, d, m', h
  | (.comp2 _ _ _ _ _ _ _ _), x, hk, env, m, d, m', h
  | (.sl _ _ _), x, hk, env, m, d, m', h
  | (.lst _), x, hk, env, m, d, m', h
  | (.comp _ _ _ _), x, hk, env, m, d, m', h
  | (.compIf _ _ _ _ _), x, hk, env, m, d, m', h
  | (.box _), x, hk, env, m, d, m', h
  | (.pop _), x, hk, env, m, d, m', h
  | (.popAt _ _), x, hk, env, m, d, m', h
  | (.append _ _), x, hk, env, m, d, m', h
  | (.rev _), x, hk, env, m, d, m', h
  | (.join _ _), x, hk, env, m, d, m', h
  | (.fmt _), x, hk, env, m, d, m', h
  | (.fstr _), x, hk, env, m, d, m', h
  | (.dead), x, hk, env, m, d, m', h
  | (.isB _ _), x, hk, env, m, d, m', h
  | (.index _ _), x, hk, env, m, d, m', h => by simp [isK] at hk
theorem stills : ∀ (es : Es) (xs : List Expr), isKs S es xs = true → ∀ env m ds m', evA F G cx es env m = .ok ds m' → m' = m
  | .nil, xs, _, env, m, ds, m', h => by
    simp only [evA] at h
    cases h
    rfl
  | .cons e es, xs, hk, env, m, ds, m', h => by
    simp only [isKs] at hk
    split at hk
    · simp only [Bool.and_eq_true] at hk
      simp only [evA] at h
      obtain ⟨p, m1, h1, h⟩ := rz_ok h
      obtain ⟨q, m2, h2, h⟩ := rz_ok h
      have e1 := still e _ hk.1 _ _ _ _ h1
      have e2 := stills es _ hk.2 _ _ _ _ h2
      cases h
      rw [e2, e1]
    · cases hk
end
end
section
variable {F : Fn} {G : List D} {cx : Option (Nat × XV)} {S : Sx_} {X : Cx}
theorem visK (hsc : X.env.scope = S.sc) {x : Str} (h : visB S x = true) : Vis X.env.scope x ∧ (x == ("__debug__" : Str)) = false ∧ (x == ("__classdict__" : Str)) = false := by
  simp only [visB, Bool.and_eq_true, Bool.not_eq_true'] at h
  refine ⟨?_, h.1.2, h.2⟩
  unfold Vis
  rw [hsc]
  have h := h.1.1
  split at h
  · exact .inl (by assumption)
  · exact .inr (.inl (by assumption))
  · exact .inr (.inr (by assumption))
  · cases h
mutual
theorem okK (hN : X.N = S.N) (hsc : X.env.scope = S.sc) (hu : X.A.units + 64 < cLine) : ∀ (e : E) (x : Expr), isK S e x = true → PE X x (tEv X.K yN fun env m => evE F G cx e env m)
  | .var i, x, h => by
    simp only [isK] at h
    split at h
    · simp only [Bool.and_eq_true, decide_eq_true_eq] at h
      obtain ⟨h1, h2, h3⟩ := visK hsc h.2
      simp only [evE]
      exact n_var (by rw [hN]; exact h.1) h1 h2 h3
    · cases h
  | .con d, x, h => by
    simp only [isK] at h
    split at h
    · simp only [evE]
      exact n_con (conB_ok h)
    · cases h
  | .bin op a b, x, h => by
    simp only [isK] at h
    split at h
    · simp only [Bool.and_eq_true] at h
      simp only [evE]
      exact n_bin h.1.1 (okK hN hsc hu a _ h.1.2) (okK hN hsc hu b _ h.2)
    · cases h
  | .neg a, x, h => by
    simp only [isK] at h
    split at h
    · simp only [evE]
      exact n_neg (okK hN hsc hu a _ h)
    · cases h
  | .ix a b, x, h => by
    simp only [isK] at h
    split at h
    · simp only [Bool.and_eq_true] at h
      simp only [evE]
      exact n_ix hu (okK hN hsc hu a _ h.1) (okK hN hsc hu b _ h.2) (pl_ix (isK_pl h.2)) (pl_nosl' (isK_pl h.2))
    · cases h
  | .tup as, x, h => by
    simp only [isK] at h
    split at h
    · simp only [evE]
      exact n_tup (okKs hN hsc hu as _ h)
    · cases h
  | (.nop), x, h
  | (.glob _), x, h
  | (.cmp _ _ _), x, h
  | (.chain _ _ _ _ _), x, h
  | (.isN _), x, h
  | (.notN _), x, h
  | (.and_ _ _), x, h
  | (.and1 _), x, h
  | (.or_ _ _), x, h
  | (.or1 _), x, h
  | (.not_ _), x, h
  | (.ife _ _ _), x, h
  | (.call _ _), x, h
  | (.callG _ _), x, h
  | (.callF _ _), x, h
  | (.callD _ _ _ _), x, h
  | (.meth _ _ _ _ _), x, h
  | (.methG _ _ _ _ _), x, h
  | (.mk _ _ _), x, h
  | (.attr _ _ _), x, h
  | (.xat _ _), x, h
  | (.xis _ _ _), x, h
  | (.dnew), x, h
  | (.dget _ _), x, h
  | (.dgetD _ _ _), x, h
  | (.dcomp _ _ _ _ _), x, h
  | (.stp _ _), x, h
  | (.gin _ _ _ _), x, h
  | (.gix _ _ _), x, h
  | (.compR _ _ _ _), x, h
  | (.compIR _ _ _ _ _), x, h
  | (.bi _ _), x, h
  | (.isi _ _), x, h
  | (.listRg _), x, h
  | (.sortK _ _ _), x, h
  | (.minK _ _ _), x, h
  | (.comp2 _ _ _ _ _ _ _ _), x, h
  | (.sl _ _ _), x, h
  | (.lst _), x, h
  | (.comp _ _ _ _), x, h
  | (.compIf _ _ _ _ _), x, h
  | (.box _), x, h
  | (.pop _), x, h
  | (.popAt _ _), x, h
  | (.append _ _), x, h
  | (.rev _), x, h
  | (.join _ _), x, h
  | (.fmt _), x, h
  | (.fstr _), x, h
  | (.dead), x, h
  | (.isB _ _), x, h
  | (.index _ _), x, h => by simp [isK] at h
theorem okKs (hN : X.N = S.N) (hsc : X.env.scope = S.sc) (hu : X.A.units + 64 < cLine) : ∀ (es : Es) (xs : List Expr), isKs S es xs = true → PA X xs (tEvA X.K yN fun env m => evA F G cx es env m)
  | .nil, xs, h => by
    simp only [isKs] at h
    split at h
    · simp only [evA]
      exact a_nil
    · cases h
  | .cons e es, xs, h => by
    simp only [isKs] at h
    split at h
    · simp only [Bool.and_eq_true] at h
      simp only [evA]
      exact a_cons (okK hN hsc hu e _ h.1) (okKs hN hsc hu es _ h.2) (pl_star (isK_pl h.1) _ _)
    · cases h
end
theorem bind_one (q : Str) (p : Str) (ann : Option Expr) (pp : Pos) (body : Expr) (scope : Scope) (cl : List (Str × Addr)) (pm cv ctv u : Value) :
    bindArgs (PySem.W.kla_fn "<lambda>" q ⟨[], [⟨p, ann, pp⟩], none, [], [], none, []⟩ body scope cl pm cv ctv) ⟨[u], []⟩ = pure [(p, u)] := by
  have e2 : List.lookup p [(p, u)] = some u := by simp [List.lookup]
  unfold bindArgs PySem.W.kla_fn
  simp only [List.map_nil, List.map_cons, List.nil_append, List.zip_cons_cons, List.zip_nil_right, List.length_cons, List.length_nil, List.forIn_nil, pure_bind, List.append_nil, List.filterMap_cons, List.filterMap_nil, e2, Option.map_some]
  try simp [seqItems?, e2]
  try rfl
theorem lamBinds_of {i : Nat} {scope : Scope} {params : Arguments} {body : Expr} (h : lamB S i scope params = true) : ∃ p, S.N[i]? = some p ∧ LmS S.sc scope p ∧ lamBinds params body scope p ∧ ∀ env, defaultsOf params env = ([], []) := by
  unfold lamB at h
  split at h
  · rename_i p ann pp
    simp only [Bool.and_eq_true, decide_eq_true_eq] at h
    refine ⟨p, h.1, lmSB_ok h.2, fun q cl pm cv ctv u => bind_one q p ann pp body scope cl pm cv ctv u, fun env => rfl⟩
  · cases h
end
end Pv

namespace Pv
open PySem L2
variable [TabT]
def gv (G : List (Str × D)) : List D := G.map (·.2)
theorem nil_rs {B : Tb} {S : Sx_} {F : Fn} {cx : Option (Nat × XV)} {as : Es} {xs : List Expr} (h : isEs B S as xs = true) (e : xs = []) : (fun env m => evA F (gv B.G) cx as env m) = fun _ m => .ok [] m := by
  subst e
  cases as with
  | nil => funext env m; rw [evA]
  | cons a b => simp [isEs] at h
theorem fnB_ok {B : Tb} {f : Nat} {nm : Str} (h : fnB B f nm = true) : ∃ fd, B.T[f]? = some fd ∧ fd.nm = nm ∧ fd.cl = Str.empty ∧ fd.df.isEmpty = true := by
  unfold fnB at h
  split at h
  · rename_i fd e
    simp only [Bool.and_eq_true, decide_eq_true_eq] at h
    exact ⟨fd, e, h.1.1, h.1.2, h.2⟩
  · cases h
theorem fnDB_ok {B : Tb} {f : Nat} {nm : Str} {dfs : List D} (h : fnDB B f nm dfs = true) : ∃ fd, B.T[f]? = some fd ∧ fd.nm = nm ∧ fd.cl = Str.empty ∧ fd.df = dfs := by
  unfold fnDB at h
  split at h
  · rename_i fd e
    simp only [Bool.and_eq_true, decide_eq_true_eq] at h
    exact ⟨fd, e, h.1.1, h.1.2, h.2⟩
  · cases h
theorem mtB_ok {B : Tb} {f : Nat} {c nm : Str} (h : mtB B f c nm = true) : ∃ fd, B.T[f]? = some fd ∧ fd.nm = nm ∧ fd.cl = c ∧ fd.cl ≠ Str.empty ∧ fd.df.isEmpty = true := by
  unfold mtB at h
  split at h
  · rename_i fd e
    simp only [Bool.and_eq_true, Bool.not_eq_true', decide_eq_true_eq, decide_eq_false_iff_not] at h
    exact ⟨fd, e, h.1.1.1, h.1.1.2, by rw [h.1.1.2]; exact h.1.2, h.2⟩
  · cases h
theorem atB_ok {X : Cx} {n : Nat} {B : Tb} {F : Fn} (C : Cok X n B F) {c f : Str} (h : atB B c f = true) : ∃ C', ClK X.K c C' ∧ NoAttr X.K C' f := by
  obtain ⟨k, hk, h⟩ := List.any_eq_true.mp h
  simp only [Bool.and_eq_true, decide_eq_true_eq] at h
  obtain ⟨C', c1, c2⟩ := C.cl k hk
  rw [h.1] at c1
  exact ⟨C', c1, c2 _ h.2⟩
theorem bs_ok {o : Expr} (h : bsB o = true) (f : Str) (env : PySem.Env) : attributeBase o f env (eval o env) = eval o env := by
  unfold bsB at h
  split at h <;> first | rfl | cases h
theorem form_of {args : List Expr} {env : PySem.Env} {pos : Pos} (hl : args.length < 29) (h : ∀ x ∈ args, plB x = true) : methodCallForm (args.length + ([] : List Keyword).length) (backTo pos (starEach args env)) (backToKw pos (keywordEach [] env)) = true := by
  refine form_ok args env pos hl (fun x hx => pl_star (h x hx) [] env) ?_
  have := any_star args env pos h
  rw [List.all_eq_not_any_not]
  simp only [Bool.not_not, this, Bool.not_false]
theorem pl_nosl {x : Expr} (h : plB x = true) : NoSl x := by
  cases x <;> first | (intro _ _; rfl) | cases h
theorem XOk.cx0 {X : Cx} {S : Sx_} {y : Yc} (hX : XOk X S y) (h : S.xs = none) : y.cx = none := by
  cases e : y.cx with
  | none => rfl
  | some p =>
    obtain ⟨i, x⟩ := p
    have := (hX.xs i x e).1
    rw [h] at this; cases this
theorem is_nop {B : Tb} {S : Sx_} {lo : E} {x : Expr} (h : isE B S lo x = true) : isNop lo = false := by
  cases lo <;> first | rfl | (simp [isE] at h)
theorem tru_plain {B : Tb} {S : Sx_} {e : E} {x : Expr} (h : isE B S e x = true) (hb : match e with
    | .cmp .. => False | .chain .. => False | .isN _ => False | .notN _ => False | .and_ .. => False | .and1 .. => False | .or_ .. => False | .or1 .. => False | .not_ _ => False | .ife .. => False | .box _ => False | .dead => False | .isB .. => False | .gin .. => False | .minK .. => False | .comp2 .. => False | _ => True) (env : PySem.Env) :
    ∀ whole, isTrue x env whole = (do let v ← whole; standAt x.pos; holding [v] (truthy v)) := by
  cases e <;> first | (exact False.elim hb) | skip
  all_goals (simp only [isE] at h; try (split at h)) 
  all_goals first | (intro _; rfl) | (cases h) | (rename_i e; obtain ⟨_, _, _, _, _, _, rfl⟩ := sortP_some e; intro _; rfl) | skip
theorem tru_min {B : Tb} {S : Sx_} {a k : E} {i : Nat} {x : Expr} (h : isE B S (.minK a i k) x = true) (env : PySem.Env) :
    ∀ whole, isTrue x env whole = (do let v ← whole; standAt x.pos; holding [v] (truthy v)) := by
  simp only [isE] at h
  split at h
  · rename_i e
    obtain ⟨_, _, _, _, rfl⟩ := minP_some e
    intro _; rfl
  · cases h
theorem tru_c2 {B : Tb} {S : Sx_} {own : List (Str × Nat)} {t t1 : Tg} {it : It} {vs1 : List Nat} {b c e : E} {x : Expr} (h : isE B S (.comp2 own t it vs1 t1 b c e) x = true) (env : PySem.Env) :
    ∀ whole, isTrue x env whole = (do let v ← whole; standAt x.pos; holding [v] (truthy v)) := by
  simp only [isE] at h
  split at h
  · intro _; rfl
  · cases h
theorem isBO_of {B : Tb} {S : Sx_} {b : E} {op : BoolOp} {xs : List Expr} {pos : Pos} (h : isE B S b (.BoolOp op xs pos) = true) : isBO b = true := by
  cases b <;> first | rfl | (exfalso; simp [isE, sortP, minP] at h; done) | skip
  rename_i a
  exfalso
  simp only [isE, Bool.and_eq_true] at h
  obtain ⟨h1, h2⟩ := h
  cases a <;> simp [isNew] at h1 <;> simp [isE, sortP, minP] at h2
theorem tru_box {B : Tb} {S : Sx_} {a : E} {x : Expr} (hn : isNew a = true) (h : isE B S a x = true) (env : PySem.Env) : ∀ whole, isTrue x env whole = (do let v ← whole; standAt x.pos; holding [v] (truthy v)) := by
  cases a <;> first | (simp [isNew] at hn; done) | exact tru_plain h trivial env | exact tru_c2 h env
/-! ### names of classes -/
inductive Prs (R : Str → Addr → Prop) : List Str → List Addr → Prop
  | nil : Prs R [] []
  | cons {c : Str} {a : Addr} {cs : List Str} {as : List Addr} (h : R c a) (t : Prs R cs as) : Prs R (c :: cs) (a :: as)
section
variable {n : Nat} {B : Tb} {F : Fn} {X : Cx} {S : Sx_} {y_ : Yc}
theorem nms_ok (C : Cok X n B F) (hX : XOk X S y_) : ∀ {cs : List Str} {xs : List Expr}, (∀ c ∈ cs, c ∈ B.qs) → nmsB S cs xs = true → ∃ as, Prs (fun c a => X.mg c = some (.ref a)) cs as ∧ PA X xs (fun σ H Q => Q (as.map V.ref) H)
  | [], [], _, _ => ⟨[], .nil, pa_nil⟩
  | [], _ :: _, _, h => by simp [nmsB] at h
  | c :: cs, xs, hq, h => by
    unfold nmsB at h
    split at h
    · contradiction
    · rename_i c' cs' d p r e1
      cases e1
      simp only [Bool.and_eq_true, decide_eq_true_eq] at h
      obtain ⟨⟨e0, hg⟩, hr⟩ := h
      subst e0
      obtain ⟨g1, g2⟩ := glB_ok hX hg
      obtain ⟨a, ha⟩ := C.xq _ (hq _ List.mem_cons_self)
      obtain ⟨as, pr, pa⟩ := nms_ok C hX (fun c hc => hq c (List.mem_cons_of_mem _ hc)) hr
      exact ⟨a :: as, .cons ha pr, pa_cons (pe_glob (v := .ref a) g1 ha rfl g2) pa rfl⟩
    · cases h
theorem cls_ok (C : Cok X n B F) (hX : XOk X S y_) {cs : List Str} {ty : Expr} (hq : ∀ c ∈ cs, c ∈ B.qs) (h : clsB S cs ty = true) : ∃ as, Prs (fun c a => X.mg c = some (.ref a)) cs as ∧ CsE X as ty := by
  unfold clsB at h
  split at h
  · simp only [Bool.and_eq_true, decide_eq_true_eq] at h
    obtain ⟨e0, hg⟩ := h
    subst e0
    obtain ⟨g1, g2⟩ := glB_ok hX hg
    obtain ⟨a, ha⟩ := C.xq _ (hq _ List.mem_cons_self)
    exact ⟨[a], .cons ha .nil, .one (pe_glob (v := .ref a) g1 ha rfl g2)⟩
  · simp only [Bool.and_eq_true, decide_eq_true_eq] at h
    obtain ⟨as, pr, pa⟩ := nms_ok C hX hq h.2
    refine ⟨as, pr, .tup pa ?_⟩
    have : as.length = cs.length := by
      clear pa h hq
      induction pr with
      | nil => rfl
      | cons _ _ ih => simp [ih]
    rw [this, sizeLine_eq]
    omega
  · cases h
end
theorem kit_one {K : PySem.W.Frag} {C a : Addr} {b : Bool} (e : PySem.W.exmOne K (.ref C) (.ref C) = some true) (h : PySem.W.exmOne K (.ref C) (.ref a) = some b) : PySem.W.kitOne K (.ref C) (.ref a) = some b := by
  unfold PySem.W.kitOne
  by_cases hc : C = a
  · subst hc
    rw [e] at h
    rw [if_pos (by simp)]
    exact h
  · rw [if_neg (by simpa using hc)]
    have h' : (if (PySem.W.subIn K (.ref a) (.type "BaseException") == some true) = true then (if ((PySem.W.clsIn K a).isSome && PySem.W.typeIn K (.ref a) == some (.type "type")) = true then PySem.W.subIn K (.ref C) (.ref a) else none) else none) = some b := h
    split at h'
    · exact h'
    · cases h'
theorem kit_any {K : PySem.W.Frag} {C : Addr} {mg : Str → Option Value} {sup : List Str} (e : PySem.W.exmOne K (.ref C) (.ref C) = some true) : ∀ {cs : List Str} {as : List Addr}, (∀ c ∈ cs, ∀ C', mg c = some (.ref C') → PySem.W.exmOne K (.ref C) (.ref C') = some (decide (c ∈ sup))) → Prs (fun c a => mg c = some (.ref a)) cs as → PySem.W.kitAny K (.ref C) (as.map Value.ref) = some (cs.any fun c => decide (c ∈ sup))
  | [], _, _, .nil => rfl
  | c :: cs, a :: as, h, .cons ha t => by
    have h1 := kit_one e (h c List.mem_cons_self a ha)
    have ih := kit_any e (fun c hc => h c (List.mem_cons_of_mem _ hc)) t
    simp only [List.map_cons, PySem.W.kitAny, h1, List.any_cons]
    cases decide (c ∈ sup) with
    | true => rfl
    | false => exact ih
section
variable {n : Nat} {B : Tb} {F : Fn}
/-- the body of a lambda, in its frame within a built-in -/
theorem lamK_ok {X : Cx} {S : Sx_} {y_ : Yc} (C : Cok X n B F) (hX : XOk X S y_) (rm : RmB n X.A) {scope : Scope} {s : Shared} {H : Hp} {f c' : Addr} {k : E} {body : Expr} (h : lamK B (S.lam scope) k body = true) :
    PE (LamX.lamCx X X.A.in1 X.stack s H (fun _ _ _ => False) scope f c') body (tEv X.K yN fun env m => evE F (gv B.G) y_.cx k env m) := by
  have hu : (LamX.lamCx X X.A.in1 X.stack s H (fun _ _ _ => False) scope f c').A.units + 64 < cLine := by
    have := rm.un
    show X.A.units + 1 + 3 + 64 < cLine
    omega
  unfold lamK at h
  split at h
  · rename_i x g as
    split at h
    · rename_i nm p z zs pos
      simp only [Bool.and_eq_true] at h
      obtain ⟨⟨hf, hg⟩, ha⟩ := h
      obtain ⟨fd, e1, e2, e3, e9⟩ := fnB_ok hf
      subst e2
      obtain ⟨g', fdat, k1, k2, k3, k4, k5⟩ := C.fn g fd e1
      unfold glB at hg
      simp only [Bool.and_eq_true, Bool.not_eq_true', decide_eq_true_eq] at hg
      have pls := isKs_pls ha
      simp only [evE]
      refine n_call (X := LamX.lamCx X X.A.in1 X.stack s H (fun _ _ _ => False) scope f c') (y_ := yN) (n := n) end_gc (fun _ => rfl) takesN k1 k5 ⟨rm.hd, ?_, ?_⟩ hg.1 (k4.pl e3) k3 (k2.nil e9) (okKs (X := LamX.lamCx X X.A.in1 X.stack s H (fun _ _ _ => False) scope f c') (S := S.lam scope) (cx := y_.cx) hX.n rfl hu as _ ha) (fun z zs e => pl_star (pls z (by rw [e]; exact List.mem_cons_self)) _ _) (fun z zs e => any_star _ _ _ fun y hy => pls y (by rw [e]; exact List.mem_cons_of_mem _ hy)) (fun e => by cases e) hg.2
      · have := rm.dp
        show X.A.depth + 1 + 2 * n + 20 < recursionLimit
        omega
      · have := rm.un
        show X.A.units + 1 + 3 + 9 * n + 260 < cLine
        omega
    · cases h
  · exact okK (X := LamX.lamCx X X.A.in1 X.stack s H (fun _ _ _ => False) scope f c') (S := S.lam scope) hX.n rfl hu _ _ h
mutual
theorem okE : ∀ (e : E) {X : Cx} {S : Sx_} {y_ : Yc} (C : Cok X n B F) (hX : XOk X S y_) (x : Expr), isE B S e x = true → PE X x (tEv X.K y_ fun env m => evE F (gv B.G) y_.cx e env m)
  | .nop, X, S, y_, C, hX, x, h => by simp [isE] at h
  | .var i, X, S, y_, C, hX, x, h => by
    simp only [isE] at h
    split at h
    · rename_i s p
      simp only [Bool.and_eq_true, decide_eq_true_eq] at h
      obtain ⟨h1, h2, h3⟩ := visB_ok hX h.2
      simp only [evE]
      exact n_var (by rw [hX.n]; exact h.1) h1 h2 h3
    · cases h
  | .con d, X, S, y_, C, hX, x, h => by
    simp only [isE] at h
    split at h
    · simp only [evE]
      exact n_con (conB_ok h)
    · cases h
  | .glob k, X, S, y_, C, hX, x, h => by
    simp only [isE] at h
    split at h
    · rename_i s p
      simp only [Bool.and_eq_true, decide_eq_true_eq] at h
      obtain ⟨h1, h2⟩ := glB_ok hX h.2
      obtain ⟨⟨s', d⟩, e1, e2⟩ := Option.map_eq_some_iff.mp h.1
      simp only at e2
      subst e2
      obtain ⟨v, u, m1, m2, m3⟩ := C.gl k s' d e1
      have e3 : (gv B.G)[k]? = some d := by unfold gv; rw [List.getElem?_map, e1]; rfl
      simp only [evE, e3]
      exact n_glob h1 m1 m2 m3 h2
    · cases h
  | .bin op a b, X, S, y_, C, hX, x, h => by
    simp only [isE] at h
    split at h
    · simp only [Bool.and_eq_true] at h
      simp only [evE]
      exact n_bin h.1.1 (okE a C hX _ h.1.2) (okE b C hX _ h.2)
    · cases h
  | .neg a, X, S, y_, C, hX, x, h => by
    simp only [isE] at h
    split at h
    · simp only [evE]
      exact n_neg (okE a C hX _ h)
    · cases h
  | .cmp op a b, X, S, y_, C, hX, x, h => by
    simp only [isE] at h
    split at h
    · simp only [Bool.and_eq_true] at h
      simp only [evE]
      exact n_cmp hX.un h.1.1 (okE a C hX _ h.1.2) (okE b C hX _ h.2) (pl_mark (is_pl h.2) _)
    · cases h
  | .chain o p a b c, X, S, y_, C, hX, x, h => by
    simp only [isE] at h
    split at h
    · simp only [Bool.and_eq_true] at h
      simp only [evE]
      exact n_chain hX.un h.1.1.1.1 h.1.1.1.2 (okE a C hX _ h.1.1.2) (okE b C hX _ h.1.2) (okE c C hX _ h.2) (pl_mark (is_pl h.2) _)
    · cases h
  | .isN a, X, S, y_, C, hX, x, h => by
    simp only [isE] at h
    split at h
    · simp only [evE]
      exact n_isN (okE a C hX _ h)
    · cases h
  | .notN a, X, S, y_, C, hX, x, h => by
    simp only [isE] at h
    split at h
    · simp only [evE]
      exact n_notN (okE a C hX _ h)
    · cases h
  | .and_ a b, X, S, y_, C, hX, x, h => by
    simp only [isE] at h
    split at h
    · simp only [Bool.and_eq_true] at h
      simp only [evE]
      exact n_and (okE a C hX _ h.1) (okE b C hX _ h.2)
    · cases h
  | .and1 a, X, S, y_, C, hX, x, h => by
    simp only [isE] at h
    split at h
    · simp only [evE]
      exact n_and1 (okE a C hX _ h)
    · cases h
  | .or_ a b, X, S, y_, C, hX, x, h => by
    simp only [isE] at h
    split at h
    · simp only [Bool.and_eq_true] at h
      simp only [evE]
      exact n_or (okE a C hX _ h.1) (okE b C hX _ h.2)
    · cases h
  | .or1 a, X, S, y_, C, hX, x, h => by
    simp only [isE] at h
    split at h
    · simp only [evE]
      exact n_or1 (okE a C hX _ h)
    · cases h
  | .not_ a, X, S, y_, C, hX, x, h => by
    simp only [isE] at h
    split at h
    · simp only [evE]
      exact n_not (okE a C hX _ h)
    · cases h
  | .ife c a b, X, S, y_, C, hX, x, h => by
    simp only [isE] at h
    split at h
    · simp only [Bool.and_eq_true] at h
      simp only [evE]
      exact n_ife (okT c C hX _ h.1.1) (okE a C hX _ h.1.2) (okE b C hX _ h.2)
    · cases h
  | .call f as, X, S, y_, C, hX, x, h => by
    simp only [isE] at h
    split at h
    · rename_i nm p xs pos
      simp only [Bool.and_eq_true, decide_eq_true_eq] at h
      obtain ⟨⟨⟨hc, hf⟩, hg⟩, ha⟩ := h
      obtain ⟨h1, h2⟩ := glB_ok hX hg
      obtain ⟨fd, e1, e2, e3, e9⟩ := fnB_ok hf
      subst e2
      obtain ⟨g, fdat, k1, k2, k3, k4, k5⟩ := C.fn f fd e1
      have pls := is_pls ha
      simp only [evE]
      exact n_call end_id (fun _ => rfl) hX.tk k1 k5 (C.room (hX.calm hc)).rm h1 (k4.pl e3) k3 (k2.nil e9) (okA as C hX _ ha) (fun z zs e => pl_star (pls z (by rw [e]; exact List.mem_cons_self)) _ _) (fun z zs e => any_star _ _ _ fun y hy => pls y (by rw [e]; exact List.mem_cons_of_mem _ hy)) (nil_rs ha) h2
    · cases h
  | .callG f as, X, S, y_, C, hX, x, h => by
    simp only [isE] at h
    split at h
    · rename_i nm p xs pos
      simp only [Bool.and_eq_true, decide_eq_true_eq] at h
      obtain ⟨⟨⟨hc, hf⟩, hg⟩, ha⟩ := h
      obtain ⟨h1, h2⟩ := glB_ok hX hg
      obtain ⟨fd, e1, e2, e3, e9⟩ := fnB_ok hf
      subst e2
      obtain ⟨g, fdat, k1, k2, k3, k4, k5⟩ := C.fn f fd e1
      have pls := is_pls ha
      simp only [evE]
      exact n_call end_gc (fun _ => rfl) hX.tk k1 k5 (C.room (hX.calm hc)).rm h1 (k4.pl e3) k3 (k2.nil e9) (okA as C hX _ ha) (fun z zs e => pl_star (pls z (by rw [e]; exact List.mem_cons_self)) _ _) (fun z zs e => any_star _ _ _ fun y hy => pls y (by rw [e]; exact List.mem_cons_of_mem _ hy)) (nil_rs ha) h2
    · cases h
  | .callF f as, X, S, y_, C, hX, x, h => by
    simp only [isE] at h
    split at h
    · rename_i nm p xs pos
      simp only [Bool.and_eq_true, decide_eq_true_eq] at h
      obtain ⟨⟨⟨hc, hf⟩, hg⟩, ha⟩ := h
      obtain ⟨h1, h2⟩ := glB_ok hX hg
      obtain ⟨fd, e1, e2, e3, e9⟩ := fnB_ok hf
      subst e2
      obtain ⟨g, fdat, k1, k2, k3, k4, k5⟩ := C.fn f fd e1
      have pls := is_pls ha
      simp only [evE]
      exact n_call end_fresh (fun _ => rfl) hX.tk k1 k5 (C.room (hX.calm hc)).rm h1 (k4.pl e3) k3 (k2.nil e9) (okA as C hX _ ha) (fun z zs e => pl_star (pls z (by rw [e]; exact List.mem_cons_self)) _ _) (fun z zs e => any_star _ _ _ fun y hy => pls y (by rw [e]; exact List.mem_cons_of_mem _ hy)) (nil_rs ha) h2
    · cases h
  | .callD md f as dfs, X, S, y_, C, hX, x, h => by
    simp only [isE] at h
    split at h
    · rename_i nm p xs pos
      simp only [Bool.and_eq_true, decide_eq_true_eq] at h
      obtain ⟨⟨⟨hc, hf⟩, hg⟩, ha⟩ := h
      obtain ⟨h1, h2⟩ := glB_ok hX hg
      obtain ⟨fd, e1, e2, e3, e9⟩ := fnDB_ok hf
      subst e2 e9
      obtain ⟨g, fdat, k1, ⟨us0, vs0, b1, b2, b3⟩, k3, k4, k5⟩ := C.fn f fd e1
      have pls := is_pls ha
      simp only [evE]
      exact n_callD (end_mode md) (mode_no md) hX.tk k1 k5 (C.room (hX.calm hc)) h1 (k4.pl e3) k3 b1 b2 b3 (okA as C hX _ ha) (fun z zs e => pl_star (pls z (by rw [e]; exact List.mem_cons_self)) _ _) (fun z zs e => any_star _ _ _ fun y hy => pls y (by rw [e]; exact List.mem_cons_of_mem _ hy)) (nil_rs ha) h2
    · cases h
  | .meth a c nm f as, X, S, y_, C, hX, x, h => by
    simp only [isE] at h
    split at h
    · rename_i o n' ap xs cp
      simp only [Bool.and_eq_true, Bool.not_eq_true', decide_eq_true_eq, decide_eq_false_iff_not] at h
      obtain ⟨⟨⟨⟨⟨⟨⟨⟨hc, hi⟩, e0⟩, hf⟩, hl⟩, hz⟩, hbs⟩, ho⟩, ha⟩ := h
      subst e0
      obtain ⟨fd, e1, e2, e3, e4, e9⟩ := mtB_ok hf
      subst e2 e3
      obtain ⟨g, fdat, k1, k2, k3, k4, k5⟩ := C.fn f fd e1
      obtain ⟨C', c1, c2, c3, c4⟩ := k4.mt e4
      have pls := is_pls ha
      simp only [evE]
      exact n_meth end_id (fun _ => rfl) hX.tk c1 (c4 hi) k1 k5 (C.room (hX.calm hc)) (k2.nil e9) (okE a C hX _ ho) (okA as C hX _ ha) (fun z zs e => pl_star (pls z (by rw [e]; exact List.mem_cons_self)) _ _) (fun z zs e => any_star _ _ _ fun y hy => pls y (by rw [e]; exact List.mem_cons_of_mem _ hy)) (nil_rs ha) (bs_ok hbs _ _) (form_of hz pls) hl
    · cases h
  | .methG a c nm f as, X, S, y_, C, hX, x, h => by
    simp only [isE] at h
    split at h
    · rename_i o n' ap xs cp
      simp only [Bool.and_eq_true, Bool.not_eq_true', decide_eq_true_eq, decide_eq_false_iff_not] at h
      obtain ⟨⟨⟨⟨⟨⟨⟨⟨hc, hi⟩, e0⟩, hf⟩, hl⟩, hz⟩, hbs⟩, ho⟩, ha⟩ := h
      subst e0
      obtain ⟨fd, e1, e2, e3, e4, e9⟩ := mtB_ok hf
      subst e2 e3
      obtain ⟨g, fdat, k1, k2, k3, k4, k5⟩ := C.fn f fd e1
      obtain ⟨C', c1, c2, c3, c4⟩ := k4.mt e4
      have pls := is_pls ha
      simp only [evE]
      exact n_meth end_gc (fun _ => rfl) hX.tk c1 (c4 hi) k1 k5 (C.room (hX.calm hc)) (k2.nil e9) (okE a C hX _ ho) (okA as C hX _ ha) (fun z zs e => pl_star (pls z (by rw [e]; exact List.mem_cons_self)) _ _) (fun z zs e => any_star _ _ _ fun y hy => pls y (by rw [e]; exact List.mem_cons_of_mem _ hy)) (nil_rs ha) (bs_ok hbs _ _) (form_of hz pls) hl
    · cases h
  | .mk c f as, X, S, y_, C, hX, x, h => by
    simp only [isE] at h
    split at h
    · rename_i nm p xs pos
      simp only [Bool.and_eq_true, decide_eq_true_eq] at h
      obtain ⟨⟨⟨⟨hc, e0⟩, hf⟩, hg⟩, ha⟩ := h
      subst e0
      obtain ⟨h1, h2⟩ := glB_ok hX hg
      obtain ⟨fd, e1, e2, e3, e4, e9⟩ := mtB_ok hf
      subst e3
      obtain ⟨g, fdat, k1, k2, k3, k4, k5⟩ := C.fn f fd e1
      obtain ⟨C', c1, c2, c3, c4⟩ := k4.mt e4
      have pls := is_pls ha
      simp only [evE]
      exact n_mk hX.tk c1 (c3 e2) k1 k5 (C.room (hX.calm hc)) (k2.nil e9) h1 c2 (okA as C hX _ ha) (fun z zs e => pl_star (pls z (by rw [e]; exact List.mem_cons_self)) _ _) (fun z zs e => any_star _ _ _ fun y hy => pls y (by rw [e]; exact List.mem_cons_of_mem _ hy)) (nil_rs ha) h2
    · cases h
  | .attr a c f, X, S, y_, C, hX, x, h => by
    simp only [isE] at h
    split at h
    · simp only [Bool.and_eq_true, decide_eq_true_eq] at h
      obtain ⟨⟨⟨e0, hat⟩, hbs⟩, ho⟩ := h
      subst e0
      obtain ⟨C', c1, c2⟩ := atB_ok C hat
      simp only [evE]
      exact n_attr c1 c2 (okE a C hX _ ho) (bs_ok hbs _ _)
    · cases h
  | .xat i f, X, S, y_, C, hX, x, h => by
    simp only [isE] at h
    split at h
    · simp only [Bool.and_eq_true, decide_eq_true_eq, List.all_eq_true] at h
      obtain ⟨⟨⟨e0, e1⟩, hv⟩, hn⟩ := h
      subst e0
      obtain ⟨h1, h2, h3⟩ := visB_ok hX hv
      simp only [evE]
      refine n_xat hX (fun n hn' => ?_) (pe_var (by rw [hX.n]; exact e1) h1 h2 h3)
      obtain ⟨t, ht, hk⟩ := List.any_eq_true.mp (hn n hn')
      simp only [Bool.and_eq_true, decide_eq_true_eq] at hk
      obtain ⟨Cx, k⟩ := C.xc t ht
      exact ⟨Cx, by rw [← hk.1]; exact k.at_, k.xf, k.no _ hk.2⟩
    · cases h
  | .xis i cs yes, X, S, y_, C, hX, x, h => by
    simp only [isE] at h
    split at h
    · rename_i nm p2 s p ty pos
      simp only [Bool.and_eq_true, decide_eq_true_eq, List.all_eq_true, beq_iff_eq] at h
      obtain ⟨⟨⟨⟨⟨⟨⟨e0, hg⟩, e1⟩, hv⟩, hcs⟩, hq⟩, hn⟩, hy⟩ := h
      subst e0
      obtain ⟨g1, g2⟩ := glB_ok hX hg
      obtain ⟨h1, h2, h3⟩ := visB_ok hX hv
      obtain ⟨as, pr, ha⟩ := cls_ok C hX hq hcs
      simp only [evE]
      refine n_xis hX g1 (C.bl _ (by decide)) (fun n hn' => ?_) (pe_var (by rw [hX.n]; exact e1) h1 h2 h3) ha
      obtain ⟨t, ht, hk⟩ := List.any_eq_true.mp (hn n hn')
      have hk := of_decide_eq_true hk
      obtain ⟨Cx, k⟩ := C.xc t ht
      obtain ⟨y1, y2⟩ := hy t ht
      refine ⟨Cx, by rw [← hk]; exact k.at_, k.xf, k.ic, ?_⟩
      rw [← hk, y2]
      have e3 := C.xm t ht t.nm (List.mem_append_left _ (List.mem_map_of_mem ht)) Cx Cx k.at_ k.gm
      rw [decide_eq_true y1] at e3
      exact kit_any e3 (fun c hc C' hm => C.xm t ht c (hq c hc) Cx C' k.at_ hm) pr
    · cases h
  | .dnew, X, S, y_, C, hX, x, h => by
    simp only [isE] at h
    split at h
    · simp only [evE]
      exact n_dnew
    · cases h
  | .dget a b, X, S, y_, C, hX, x, h => by
    simp only [isE] at h
    split at h
    · simp only [Bool.and_eq_true, decide_eq_true_eq] at h
      obtain ⟨⟨⟨⟨e0, hl⟩, hbs⟩, ho⟩, hy⟩ := h
      subst e0
      simp only [evE]
      exact n_dget hX.un (okE a C hX _ ho) (okE b C hX _ hy) ⟨bs_ok hbs _ _, few1 (pl_star (is_pl hy) _ _), hl, by rw [pl_star (is_pl hy)]; rfl⟩
    · cases h
  | .dgetD _ _ _, X, S, y_, C, hX, x, h => by simp [isE] at h
  | .dcomp own t it k e, X, S, y_, C, hX, x, h => by
    simp only [isE] at h
    split at h
    · rename_i kz z tg i a scope pos
      simp only [Bool.and_eq_true, decide_eq_true_eq] at h
      obtain ⟨⟨⟨⟨⟨⟨⟨⟨hcm, hxs⟩, e1⟩, h2⟩, h3⟩, h4⟩, h5⟩, h7⟩, h6⟩ := h
      subst e1
      have hcx : y_.cx = none := hX.cx0 hxs
      simp only [evE]
      have ok : BlkOk X.N X.env.scope scope own := by rw [hX.n, hX.sc]; exact blkOk_by h2
      have hi := okI it C hX tg i h4
      have q := n_dcomp (hX.calm hcm) hX.nd hi.1 ok h3 (fun s H c cl fp => okTg (hX.blk hcm s H scope c cl fp) t tg h5) (fun s H c cl fp => okE k (C.blk s H scope _ fp) (hX.blk hcm s H scope c cl fp) kz h7) (fun s H c cl fp => okE e (C.blk s H scope _ fp) (hX.blk hcm s H scope c cl fp) z h6) hi.2 (pos := pos)
      have ec : yN.cx = y_.cx := hcx.symm
      rw [ec] at q
      exact q
    · cases h
  | .compR own t v e, X, S, y_, C, hX, x, h => of_new (okN (.compR own t v e) C hX x (by rfl) h) fun env m d m' e' => by
      simp only [evE] at e'
      exact rCompR_lst (ra := fun env m => evE F (gv B.G) y_.cx v env m) e'
  | .compIR own t v c e, X, S, y_, C, hX, x, h => of_new (okN (.compIR own t v c e) C hX x (by rfl) h) fun env m d m' e' => by
      simp only [evE] at e'
      exact rCompIR_lst (ra := fun env m => evE F (gv B.G) y_.cx v env m) e'
  | .gin nm t ng a, X, S, y_, C, hX, x, h => by
    simp only [isE] at h
    split at h
    · simp only [Bool.and_eq_true, decide_eq_true_eq] at h
      obtain ⟨⟨⟨⟨e1, g1⟩, g2⟩, g3⟩, g4⟩ := h
      subst e1
      obtain ⟨b, m1, m2⟩ := C.gd _ g2
      simp only [evE]
      obtain ⟨h1, h2⟩ := glB_ok hX g1
      cases ng
      · rename_i o _ _ _
        cases o <;> first | (exact absurd g3 (by decide)) | exact n_gin m2 h1 m1 h2 (okE a C hX _ g4)
      · rename_i o _ _ _
        cases o <;> first | (exact absurd g3 (by decide)) | exact n_gnotin m2 h1 m1 h2 (okE a C hX _ g4)
    · cases h
  | .gix nm t a, X, S, y_, C, hX, x, h => by
    simp only [isE] at h
    split at h
    · simp only [Bool.and_eq_true, decide_eq_true_eq] at h
      obtain ⟨⟨⟨e1, g1⟩, g2⟩, g4⟩ := h
      subst e1
      obtain ⟨b, m1, m2⟩ := C.gd _ g2
      simp only [evE]
      obtain ⟨h1, h2⟩ := glB_ok hX g1
      exact n_gix m2 h1 m1 h2 (okE a C hX _ g4) (pl_ix (is_pl g4))
    · cases h
  | .stp a c, X, S, y_, C, hX, x, h => by
    simp only [isE] at h
    split at h
    · simp only [Bool.and_eq_true] at h
      simp only [evE]
      exact n_stp (okE a C hX _ h.1) (okE c C hX _ h.2)
    · cases h
  | .bi b as, X, S, y_, C, hX, x, h => by
    simp only [isE] at h
    split at h
    · rename_i nm p z zs pos
      simp only [Bool.and_eq_true, Bool.or_eq_true, Bool.not_eq_true', decide_eq_true_eq] at h
      obtain ⟨⟨⟨hcb, e⟩, hg⟩, ha⟩ := h
      obtain ⟨h1, h2⟩ := glB_ok hX hg
      subst e
      have pls := is_pls ha
      simp only [evE]
      exact n_bi (fun hb => hX.calm (hcb.resolve_right (by rw [hb]; decide))) h1 (C.bl _ (by cases b <;> decide)) (okA as C hX _ ha) (pl_star (pls z List.mem_cons_self) _ _) (any_star _ _ _ fun y hy => pls y (List.mem_cons_of_mem _ hy))
    · cases h
  | .isi a t, X, S, y_, C, hX, x, h => by
    simp only [isE] at h
    split at h
    · rename_i nm p z ty p2 pos
      simp only [Bool.and_eq_true, decide_eq_true_eq] at h
      obtain ⟨⟨⟨⟨e1, g1⟩, e2⟩, g2⟩, h⟩ := h
      subst e1 e2
      simp only [evE]
      exact n_isi (glB_ok hX g1).1 (C.bl _ (by decide)) (glB_ok hX g2).1 (C.bl _ (by cases t <;> decide)) (okE a C hX _ h) (fun zs => pl_star (is_pl h) _ _)
    · cases h
  | .listRg a, X, S, y_, C, hX, x, h => of_new (okN (.listRg a) C hX x (by rfl) h) fun env m d m' e => by
      simp only [evE] at e
      exact rListRg_lst e
  | .comp2 own t it vs1 t1 b c e, X, S, y_, C, hX, x, h => of_new (okN (.comp2 own t it vs1 t1 b c e) C hX x (by rfl) h) fun env m d m' e' => by
      simp only [evE] at e'
      exact rComp2_lst e'
  | .minK a i k, X, S, y_, C, hX, x, h => by
    simp only [isE] at h
    split at h
    · rename_i nm z kw params body scope ex
      obtain ⟨p1, p2, p3, p4, rfl⟩ := minP_some ex
      simp only [Bool.and_eq_true, decide_eq_true_eq] at h
      obtain ⟨⟨⟨⟨⟨⟨⟨hcm, hlm⟩, e1⟩, g1⟩, e3⟩, hb⟩, hk⟩, h⟩ := h
      subst e1 e3
      simp only [evE]
      obtain ⟨p, b1, b2, b3, b4⟩ := lamBinds_of (body := body) hb
      have rm := C.room (hX.calm hcm)
      exact n_minK (hX.lm hlm) (b4 _) (by rw [hX.sc]; exact b2) b3 (hX.calm hcm) (by have := rm.dp; omega) hX.nd (by rw [hX.n]; exact b1) (glB_ok hX g1).1 (C.bl _ (by decide)) (okE a C hX _ h) (pl_star (is_pl h) _ _) (fun s H f c' => lamK_ok C hX rm hk)
    · cases h
  | .sortK a i k, X, S, y_, C, hX, x, h => of_new (okN (.sortK a i k) C hX x (by rfl) h) fun env m d m' e => by
      simp only [evE] at e
      obtain ⟨p, m1, h1, e⟩ := rz_ok e
      cases hs : sortKM (fun env m => evE F (gv B.G) y_.cx k env m) env i m1 p with
      | none => rw [hs] at e; cases e
      | some ds => rw [hs] at e; cases e; exact ⟨ds, rfl⟩
  | .ix a b, X, S, y_, C, hX, x, h => by
    simp only [isE] at h
    split at h
    · simp only [Bool.and_eq_true] at h
      simp only [evE]
      exact n_ix hX.un (okE a C hX _ h.1) (okE b C hX _ h.2) (pl_ix (is_pl h.2)) (pl_nosl (is_pl h.2))
    · cases h
  | .sl a lo hi, X, S, y_, C, hX, x, h => by
    simp only [isE] at h
    split at h
    · rename_i l r r' p2 pos
      simp only [Bool.and_eq_true] at h
      obtain ⟨⟨h1, h2⟩, h3⟩ := h
      simp only [evE]
      refine n_sl (okE a C hX _ h1) ?_ ?_
      · cases r with
        | none => simp only at h2; rw [h2]; exact o_none
        | some z =>
          simp only [Bool.and_eq_true] at h2
          rw [is_nop h2.2]
          exact o_some (okE lo C hX _ h2.2)
      · cases r' with
        | none => simp only at h3; rw [h3]; exact o_none
        | some z =>
          simp only [Bool.and_eq_true] at h3
          rw [is_nop h3.2]
          exact o_some (okE hi C hX _ h3.2)
    · cases h
  | .tup as, X, S, y_, C, hX, x, h => by
    simp only [isE] at h
    split at h
    · simp only [evE]
      exact n_tup (okA as C hX _ h)
    · cases h
  | .lst as, X, S, y_, C, hX, x, h => of_new (okN (.lst as) C hX x (by rfl) h) fun env m d m' e => by
      simp only [evE] at e
      obtain ⟨p, m1, h1, e⟩ := rz_ok e
      have e := of_some e
      unfold lstD at e
      split at e
      · cases e; exact ⟨_, rfl⟩
      · cases e
  | .comp own t it e, X, S, y_, C, hX, x, h => of_new (okN (.comp own t it e) C hX x (by rfl) h) fun env m d m' e => by
      simp only [evE] at e
      exact rComp_lst (ri := fun env m => evI F (gv B.G) y_.cx it env m) e
  | .compIf own t it c e, X, S, y_, C, hX, x, h => of_new (okN (.compIf own t it c e) C hX x (by rfl) h) fun env m d m' e => by
      simp only [evE] at e
      exact rCompI_lst (ri := fun env m => evI F (gv B.G) y_.cx it env m) e
  | .box a, X, S, y_, C, hX, x, h => by
    simp only [isE, Bool.and_eq_true] at h
    simp only [evE]
    exact n_box (okN a C hX x h.1 h.2)
  | .pop a, X, S, y_, C, hX, x, h => by
    simp only [isE] at h
    split at h
    · simp only [Bool.and_eq_true, decide_eq_true_eq] at h
      obtain ⟨⟨⟨e1, e2⟩, hbs⟩, h⟩ := h
      subst e1
      simp only [evE]
      exact n_pop (bs_ok hbs _ _) (okE a C hX _ h) e2
    · cases h
  | .popAt a b, X, S, y_, C, hX, x, h => by
    simp only [isE] at h
    split at h
    · simp only [Bool.and_eq_true, decide_eq_true_eq] at h
      obtain ⟨⟨⟨⟨e1, e2⟩, hbs⟩, h⟩, h'⟩ := h
      subst e1
      simp only [evE]
      exact n_popAt (bs_ok hbs _ _) (okE a C hX _ h) (okE b C hX _ h') e2 (pl_star (is_pl h') _ _)
    · cases h
  | .append a b, X, S, y_, C, hX, x, h => by
    simp only [isE] at h
    split at h
    · simp only [Bool.and_eq_true, decide_eq_true_eq] at h
      obtain ⟨⟨⟨⟨e1, e2⟩, hbs⟩, h⟩, h'⟩ := h
      subst e1
      simp only [evE]
      exact n_append (bs_ok hbs _ _) (okE a C hX _ h) (okE b C hX _ h') e2 (pl_star (is_pl h') _ _)
    · cases h
  | .rev a, X, S, y_, C, hX, x, h => by
    simp only [isE] at h
    split at h
    · simp only [Bool.and_eq_true, decide_eq_true_eq] at h
      obtain ⟨e1, h⟩ := h
      subst e1
      simp only [evE]
      exact n_rev (okE a C hX _ h)
    · cases h
  | .join a b, X, S, y_, C, hX, x, h => by
    simp only [isE] at h
    split at h
    · simp only [Bool.and_eq_true, decide_eq_true_eq] at h
      obtain ⟨⟨⟨e1, e2⟩, h⟩, h'⟩ := h
      subst e1
      simp only [evE]
      exact n_join (okE a C hX _ h) (okE b C hX _ h') e2 (pl_star (is_pl h') _ _)
    · cases h
  | .fmt a, X, S, y_, C, hX, x, h => by
    simp only [isE] at h
    split at h
    · simp only [Bool.and_eq_true, decide_eq_true_eq] at h
      obtain ⟨e1, h⟩ := h
      subst e1
      simp only [evE]
      exact n_fmt (okE a C hX _ h)
    · cases h
  | .dead, X, S, y_, C, hX, x, h => n_dead fun env m => by simp only [evE]
  | .isB a b, X, S, y_, C, hX, x, h => by
    simp only [isE] at h
    split at h
    · simp only [Bool.and_eq_true, decide_eq_true_eq] at h
      obtain ⟨e1, h⟩ := h
      subst e1
      simp only [evE]
      exact n_isB (okE a C hX _ h)
    · cases h
  | .index a b, X, S, y_, C, hX, x, h => by
    simp only [isE] at h
    split at h
    · simp only [Bool.and_eq_true, decide_eq_true_eq] at h
      obtain ⟨⟨⟨⟨e1, e2⟩, hbs⟩, h⟩, h'⟩ := h
      subst e1
      simp only [evE]
      exact n_index (bs_ok hbs _ _) (okE a C hX _ h) (okE b C hX _ h') e2 (pl_star (is_pl h') _ _)
    · cases h
  | .fstr as, X, S, y_, C, hX, x, h => by
    simp only [isE] at h
    split at h
    · simp only [evE]
      exact n_fstr (okJ as C hX _ h)
    · cases h
termination_by e => (sizeOf e, 1)
/-- new lists -/
theorem okN : ∀ (e : E) {X : Cx} {S : Sx_} {y_ : Yc} (C : Cok X n B F) (hX : XOk X S y_) (x : Expr), isNew e = true → isE B S e x = true → PE X x (tEvN X.K y_ fun env m => evE F (gv B.G) y_.cx e env m)
  | .listRg a, X, S, y_, C, hX, x, _, h => by
    simp only [isE] at h
    split at h
    · rename_i nm p ty p2 z ap pos
      simp only [Bool.and_eq_true, decide_eq_true_eq] at h
      obtain ⟨⟨⟨⟨⟨hcm, e1⟩, g1⟩, e2⟩, g2⟩, h⟩ := h
      subst e1 e2
      simp only [evE]
      exact n_listRgN (hX.calm hcm) (glB_ok hX g1).1 (C.bl _ (by decide)) (glB_ok hX g2).1 (C.bl _ (by decide)) (okE a C hX _ h) (pl_star (is_pl h) _ _)
    · cases h
  | .sortK a i k, X, S, y_, C, hX, x, _, h => by
    simp only [isE] at h
    split at h
    · rename_i nm ty z kw params body scope ex
      obtain ⟨p1, p2, p3, p4, p5, p6, rfl⟩ := sortP_some ex
      simp only [Bool.and_eq_true, decide_eq_true_eq] at h
      obtain ⟨⟨⟨⟨⟨⟨⟨⟨⟨hcm, hlm⟩, e1⟩, g1⟩, e2⟩, g2⟩, e3⟩, hb⟩, hk⟩, h⟩ := h
      subst e1 e2 e3
      simp only [evE]
      obtain ⟨p, b1, b2, b3, b4⟩ := lamBinds_of (body := body) hb
      have rm := C.room (hX.calm hcm)
      refine n_sortK (hX.lm hlm) (b4 _) (by rw [hX.sc]; exact b2) b3 (hX.calm hcm) (by have := rm.dp; omega) hX.un hX.nd (by rw [hX.n]; exact b1) (glB_ok hX g1).1 (C.bl _ (by decide)) (glB_ok hX g2).1 (C.bl _ (by decide)) (okE a C hX _ h) (pl_star (is_pl h) _ _) (fun e m d m' => still k body hk e m d m') (fun s H f c' => okK (X := LamX.lamCx X X.A.in1.in1 X.stack s H (fun _ _ _ => False) scope f c') (S := S.lam scope) hX.n rfl ?_ k body hk)
      have := rm.un
      show X.A.units + 1 + 1 + 3 + 64 < cLine
      omega
    · cases h
  | .lst as, X, S, y_, C, hX, x, _, h => by
    simp only [isE] at h
    split at h
    · simp only [evE]
      exact n_lstN (okA as C hX _ h)
    · cases h
  | .bi .list as, X, S, y_, C, hX, x, _, h => by
    simp only [isE] at h
    split at h
    · rename_i nm p z zs pos
      simp only [Bool.and_eq_true, Bool.or_eq_true, Bool.not_eq_true', decide_eq_true_eq] at h
      obtain ⟨⟨⟨hcb, e⟩, hg⟩, ha⟩ := h
      obtain ⟨h1, h2⟩ := glB_ok hX hg
      have e : nm = "list" := e
      subst e
      have pls := is_pls ha
      simp only [evE]
      exact n_listN (hX.calm (hcb.resolve_right (by decide))) h1 (C.bl _ (by decide)) (okA as C hX _ ha) (pl_star (pls z List.mem_cons_self) _ _) (any_star _ _ _ fun y hy => pls y (List.mem_cons_of_mem _ hy))
    · cases h
  | .bin op a b, X, S, y_, C, hX, x, hn, h => by
    simp only [isE] at h
    split at h
    · simp only [Bool.and_eq_true] at h
      simp only [evE]
      exact n_binN h.1.1 (by cases op <;> simp [isNew] at hn ⊢) (okE a C hX _ h.1.2) (okE b C hX _ h.2)
    · cases h
  | .comp own t it e, X, S, y_, C, hX, x, _, h => by
    simp only [isE] at h
    split at h
    · rename_i z tg i a scope pos
      simp only [Bool.and_eq_true, decide_eq_true_eq] at h
      obtain ⟨⟨⟨⟨⟨⟨⟨hcm, hxs⟩, e1⟩, h2⟩, h3⟩, h4⟩, h5⟩, h6⟩ := h
      subst e1
      have hcx : y_.cx = none := hX.cx0 hxs
      simp only [evE]
      have ok : BlkOk X.N X.env.scope scope own := by rw [hX.n, hX.sc]; exact blkOk_by h2
      have hi := okI it C hX tg i h4
      have q := n_compN (hX.calm hcm) hX.nd hi.1 ok h3 (fun s H c cl fp => okTg (hX.blk hcm s H scope c cl fp) t tg h5) (fun s H c cl fp => okE e (C.blk s H scope _ fp) (hX.blk hcm s H scope c cl fp) z h6) hi.2 (pos := pos)
      have ec : yN.cx = y_.cx := hcx.symm
      rw [ec] at q
      exact q
    · cases h
  | .compIf own t it c e, X, S, y_, C, hX, x, _, h => by
    simp only [isE] at h
    split at h
    · rename_i z tg i y a scope pos
      simp only [Bool.and_eq_true, decide_eq_true_eq] at h
      obtain ⟨⟨⟨⟨⟨⟨⟨⟨hcm, hxs⟩, e1⟩, h2⟩, h3⟩, h4⟩, h5⟩, h7⟩, h6⟩ := h
      subst e1
      have hcx : y_.cx = none := hX.cx0 hxs
      simp only [evE]
      have ok : BlkOk X.N X.env.scope scope own := by rw [hX.n, hX.sc]; exact blkOk_by h2
      have hi := okI it C hX tg i h4
      have q := n_compIN (hX.calm hcm) hX.nd hi.1 ok h3 (fun s H c cl fp => okTg (hX.blk hcm s H scope c cl fp) t tg h5) (fun s H c' cl fp => okT c (C.blk s H scope _ fp) (hX.blk hcm s H scope c' cl fp) y h7) (fun s H c cl fp => okE e (C.blk s H scope _ fp) (hX.blk hcm s H scope c cl fp) z h6) hi.2 (pos := pos)
      have ec : yN.cx = y_.cx := hcx.symm
      rw [ec] at q
      exact q
    · cases h
  | .comp2 own t it vs1 t1 b c e, X, S, y_, C, hX, x, _, h => by
    simp only [isE] at h
    split at h
    · rename_i z tg i a tg1 i1 y a1 scope pos
      split at h
      · rename_i nm w ew
        obtain ⟨q1, q2, rfl⟩ := rgP_some ew
        simp only [Bool.and_eq_true, decide_eq_true_eq, List.all_eq_true] at h
        obtain ⟨⟨⟨⟨⟨⟨⟨⟨⟨⟨⟨⟨⟨⟨⟨hcm, hxs⟩, e1⟩, e2⟩, h2⟩, h3⟩, h3'⟩, hv⟩, h4⟩, h5⟩, h5'⟩, e3⟩, hg⟩, h8⟩, h7⟩, h6⟩ := h
        subst e1 e2 e3
        have hcx : y_.cx = none := hX.cx0 hxs
        simp only [evE]
        have ok : BlkOk X.N X.env.scope scope own := by rw [hX.n, hX.sc]; exact blkOk_by h2
        have hi := okI it C hX tg i h4
        have q := n_comp2N (hX.calm hcm) hX.nd hi.1 ok hv h3 h3' (fun s H c cl fp => okTg (hX.blk hcm s H scope c cl fp) t tg h5) (fun s H c' cl fp => i_rg (p := q1) (pos := q2) (glB_ok (hX.blk hcm s H scope c' cl fp) hg).1 ((C.blk s H scope (compEnvC scope cl c' X.env) fp).bl _ (by decide)) (okE b (C.blk s H scope _ fp) (hX.blk hcm s H scope c' cl fp) w h8) (pl_star (is_pl h8) _ _)) (fun s H c cl fp => okTg (hX.blk hcm s H scope c cl fp) t1 tg1 h5') (fun s H c' cl fp => okT c (C.blk s H scope _ fp) (hX.blk hcm s H scope c' cl fp) y h7) (fun s H c cl fp => okE e (C.blk s H scope _ fp) (hX.blk hcm s H scope c cl fp) z h6) hi.2 (fun _ _ => rfl) (pos := pos)
        have ec : yN.cx = y_.cx := hcx.symm
        rw [ec] at q
        exact q
      · cases h
    · cases h
  | .compR own t v e, X, S, y_, C, hX, x, _, h => by
    simp only [isE] at h
    split at h
    · rename_i z tg i a scope pos
      simp only [Bool.and_eq_true, decide_eq_true_eq] at h
      obtain ⟨⟨⟨⟨⟨⟨⟨hcm, hxs⟩, e1⟩, h2⟩, h3⟩, h4⟩, h5⟩, h6⟩ := h
      subst e1
      have hcx : y_.cx = none := hX.cx0 hxs
      simp only [evE]
      have ok : BlkOk X.N X.env.scope scope own := by rw [hX.n, hX.sc]; exact blkOk_by h2
      have q := n_compRN (hX.calm hcm) hX.nd (okE v C hX i h4) ok h3 (fun s H c cl fp => okTg (hX.blk hcm s H scope c cl fp) t tg h5) (fun s H c cl fp => okE e (C.blk s H scope _ fp) (hX.blk hcm s H scope c cl fp) z h6) (fun v => pl_fold (is_pl h4) _ v) (pos := pos)
      have ec : yN.cx = y_.cx := hcx.symm
      rw [ec] at q
      exact q
    · cases h
  | .compIR own t v c e, X, S, y_, C, hX, x, _, h => by
    simp only [isE] at h
    split at h
    · rename_i z tg i y a scope pos
      simp only [Bool.and_eq_true, decide_eq_true_eq] at h
      obtain ⟨⟨⟨⟨⟨⟨⟨⟨hcm, hxs⟩, e1⟩, h2⟩, h3⟩, h4⟩, h5⟩, h7⟩, h6⟩ := h
      subst e1
      have hcx : y_.cx = none := hX.cx0 hxs
      simp only [evE]
      have ok : BlkOk X.N X.env.scope scope own := by rw [hX.n, hX.sc]; exact blkOk_by h2
      have q := n_compIRN (hX.calm hcm) hX.nd (okE v C hX i h4) ok h3 (fun s H c cl fp => okTg (hX.blk hcm s H scope c cl fp) t tg h5) (fun s H c' cl fp => okT c (C.blk s H scope _ fp) (hX.blk hcm s H scope c' cl fp) y h7) (fun s H c cl fp => okE e (C.blk s H scope _ fp) (hX.blk hcm s H scope c cl fp) z h6) (fun v => pl_fold (is_pl h4) _ v) (pos := pos)
      have ec : yN.cx = y_.cx := hcx.symm
      rw [ec] at q
      exact q
    · cases h
  | .nop, X, S, y_, C, hX, x, hn, h | .var _, X, S, y_, C, hX, x, hn, h | .con _, X, S, y_, C, hX, x, hn, h | .glob _, X, S, y_, C, hX, x, hn, h | .neg _, X, S, y_, C, hX, x, hn, h | .cmp _ _ _, X, S, y_, C, hX, x, hn, h | .chain _ _ _ _ _, X, S, y_, C, hX, x, hn, h | .isN _, X, S, y_, C, hX, x, hn, h
  | .notN _, X, S, y_, C, hX, x, hn, h | .and_ _ _, X, S, y_, C, hX, x, hn, h | .and1 _, X, S, y_, C, hX, x, hn, h | .or_ _ _, X, S, y_, C, hX, x, hn, h | .or1 _, X, S, y_, C, hX, x, hn, h | .not_ _, X, S, y_, C, hX, x, hn, h | .ife _ _ _, X, S, y_, C, hX, x, hn, h | .call _ _, X, S, y_, C, hX, x, hn, h | .callG _ _, X, S, y_, C, hX, x, hn, h | .meth _ _ _ _ _, X, S, y_, C, hX, x, hn, h | .methG _ _ _ _ _, X, S, y_, C, hX, x, hn, h | .mk _ _ _, X, S, y_, C, hX, x, hn, h | .attr _ _ _, X, S, y_, C, hX, x, hn, h | .xat _ _, X, S, y_, C, hX, x, hn, h | .xis _ _ _, X, S, y_, C, hX, x, hn, h | .dnew, X, S, y_, C, hX, x, hn, h | .dget _ _, X, S, y_, C, hX, x, hn, h | .dgetD _ _ _, X, S, y_, C, hX, x, hn, h | .dcomp _ _ _ _ _, X, S, y_, C, hX, x, hn, h | .stp _ _, X, S, y_, C, hX, x, hn, h | .gin _ _ _ _, X, S, y_, C, hX, x, hn, h | .gix _ _ _, X, S, y_, C, hX, x, hn, h
  | .bi .len _, X, S, y_, C, hX, x, hn, h | .bi .int _, X, S, y_, C, hX, x, hn, h | .bi .tuple _, X, S, y_, C, hX, x, hn, h | .bi .sum _, X, S, y_, C, hX, x, hn, h | .bi .all _, X, S, y_, C, hX, x, hn, h | .bi .any _, X, S, y_, C, hX, x, hn, h | .bi .max2 _, X, S, y_, C, hX, x, hn, h | .bi .min2 _, X, S, y_, C, hX, x, hn, h | .bi .sorted _, X, S, y_, C, hX, x, hn, h | .bi .min1 _, X, S, y_, C, hX, x, hn, h | .bi .max1 _, X, S, y_, C, hX, x, hn, h | .bi .str _, X, S, y_, C, hX, x, hn, h
  | .minK _ _ _, X, S, y_, C, hX, x, hn, h | .isi _ _, X, S, y_, C, hX, x, hn, h | .ix _ _, X, S, y_, C, hX, x, hn, h | .sl _ _ _, X, S, y_, C, hX, x, hn, h | .tup _, X, S, y_, C, hX, x, hn, h | .box _, X, S, y_, C, hX, x, hn, h | .pop _, X, S, y_, C, hX, x, hn, h | .popAt _ _, X, S, y_, C, hX, x, hn, h | .append _ _, X, S, y_, C, hX, x, hn, h | .callF _ _, X, S, y_, C, hX, x, hn, h | .callD _ _ _ _, X, S, y_, C, hX, x, hn, h | .dead, X, S, y_, C, hX, x, hn, h | .isB _ _, X, S, y_, C, hX, x, hn, h | .index _ _, X, S, y_, C, hX, x, hn, h | .rev _, X, S, y_, C, hX, x, hn, h | .join _ _, X, S, y_, C, hX, x, hn, h | .fmt _, X, S, y_, C, hX, x, hn, h | .fstr _, X, S, y_, C, hX, x, hn, h => by simp [isNew] at hn
termination_by e => (sizeOf e, 0)
/-- tests -/
theorem okT : ∀ (e : E) {X : Cx} {S : Sx_} {y_ : Yc} (C : Cok X n B F) (hX : XOk X S y_) (x : Expr), isE B S e x = true → PT X x (tEvT X.K y_ fun env m => evE F (gv B.G) y_.cx e env m)
  | .cmp op a b, X, S, y_, C, hX, x, h => by
    simp only [isE] at h
    split at h
    · simp only [Bool.and_eq_true] at h
      simp only [evE]
      exact t_cmp hX.un h.1.1 (okE a C hX _ h.1.2) (okE b C hX _ h.2) (pl_mark (is_pl h.2) _)
    · cases h
  | .chain o p a b c, X, S, y_, C, hX, x, h => by
    simp only [isE] at h
    split at h
    · simp only [Bool.and_eq_true] at h
      simp only [evE]
      exact t_chain hX.un h.1.1.1.1 h.1.1.1.2 (okE a C hX _ h.1.1.2) (okE b C hX _ h.1.2) (okE c C hX _ h.2) (pl_mark (is_pl h.2) _)
    · cases h
  | .isN a, X, S, y_, C, hX, x, h => by
    simp only [isE] at h
    split at h
    · simp only [evE]
      exact t_isN (okE a C hX _ h)
    · cases h
  | .notN a, X, S, y_, C, hX, x, h => by
    simp only [isE] at h
    split at h
    · simp only [evE]
      exact t_notN (okE a C hX _ h)
    · cases h
  | .and_ a b, X, S, y_, C, hX, x, h => (okW (.and_ a b) C hX x rfl h).pt
  | .and1 a, X, S, y_, C, hX, x, h => (okW (.and1 a) C hX x rfl h).pt
  | .or_ a b, X, S, y_, C, hX, x, h => (okW (.or_ a b) C hX x rfl h).pt
  | .or1 a, X, S, y_, C, hX, x, h => (okW (.or1 a) C hX x rfl h).pt
  | .not_ a, X, S, y_, C, hX, x, h => by
    simp only [isE] at h
    split at h
    · simp only [evE]
      exact t_not (okT a C hX _ h)
    · cases h
  | .ife c a b, X, S, y_, C, hX, x, h => by
    simp only [isE] at h
    split at h
    · simp only [Bool.and_eq_true] at h
      simp only [evE]
      exact t_ife (okT c C hX _ h.1.1) (okT a C hX _ h.1.2) (okT b C hX _ h.2)
    · cases h
  | .box a, X, S, y_, C, hX, x, h => by
    simp only [isE, Bool.and_eq_true] at h
    exact t_val (okE (.box a) C hX x (by simp only [isE, h.1, h.2, Bool.and_self])) (tru_box h.1 h.2 _)
  | .nop, X, S, y_, C, hX, x, h => by simp [isE] at h
  | .dead, X, S, y_, C, hX, x, h => t_dead fun env m => by simp only [evE]
  | .isB a b, X, S, y_, C, hX, x, h => by
    simp only [isE] at h
    split at h
    · simp only [Bool.and_eq_true, decide_eq_true_eq] at h
      obtain ⟨e1, h⟩ := h
      subst e1
      simp only [evE]
      exact t_isB (okE a C hX _ h)
    · cases h
  | .index i j, X, S, y_, C, hX, x, h => t_val (okE (.index i j) C hX x h) (tru_plain h trivial _)
  | .var i, X, S, y_, C, hX, x, h => t_val (okE (.var i) C hX x h) (tru_plain h trivial _)
  | .con i, X, S, y_, C, hX, x, h => t_val (okE (.con i) C hX x h) (tru_plain h trivial _)
  | .glob i, X, S, y_, C, hX, x, h => t_val (okE (.glob i) C hX x h) (tru_plain h trivial _)
  | .bin i j k, X, S, y_, C, hX, x, h => t_val (okE (.bin i j k) C hX x h) (tru_plain h trivial _)
  | .neg i, X, S, y_, C, hX, x, h => t_val (okE (.neg i) C hX x h) (tru_plain h trivial _)
  | .call i j, X, S, y_, C, hX, x, h => t_val (okE (.call i j) C hX x h) (tru_plain h trivial _)
  | .callG i j, X, S, y_, C, hX, x, h => t_val (okE (.callG i j) C hX x h) (tru_plain h trivial _)
  | .meth i j k l o, X, S, y_, C, hX, x, h => t_val (okE (.meth i j k l o) C hX x h) (tru_plain h trivial _)
  | .methG i j k l o, X, S, y_, C, hX, x, h => t_val (okE (.methG i j k l o) C hX x h) (tru_plain h trivial _)
  | .mk i j k, X, S, y_, C, hX, x, h => t_val (okE (.mk i j k) C hX x h) (tru_plain h trivial _)
  | .attr i j k, X, S, y_, C, hX, x, h => t_val (okE (.attr i j k) C hX x h) (tru_plain h trivial _)
  | .xat i j, X, S, y_, C, hX, x, h => t_val (okE (.xat i j) C hX x h) (tru_plain h trivial _)
  | .xis i j k, X, S, y_, C, hX, x, h => t_val (okE (.xis i j k) C hX x h) (tru_plain h trivial _)
  | .dnew, X, S, y_, C, hX, x, h => t_val (okE .dnew C hX x h) (tru_plain h trivial _)
  | .dget i j, X, S, y_, C, hX, x, h => t_val (okE (.dget i j) C hX x h) (tru_plain h trivial _)
  | .dgetD i j k, X, S, y_, C, hX, x, h => by simp [isE] at h
  | .dcomp i j k l o, X, S, y_, C, hX, x, h => t_val (okE (.dcomp i j k l o) C hX x h) (tru_plain h trivial _)
  | .compR i j k l, X, S, y_, C, hX, x, h => t_val (okE (.compR i j k l) C hX x h) (tru_plain h trivial _)
  | .compIR i j k l o, X, S, y_, C, hX, x, h => t_val (okE (.compIR i j k l o) C hX x h) (tru_plain h trivial _)
  | .stp i j, X, S, y_, C, hX, x, h => t_val (okE (.stp i j) C hX x h) (tru_plain h trivial _)
  | .gin nm t ng a, X, S, y_, C, hX, x, h => by
    simp only [isE] at h
    split at h
    · simp only [Bool.and_eq_true, decide_eq_true_eq] at h
      obtain ⟨⟨⟨⟨e1, g1⟩, g2⟩, g3⟩, g4⟩ := h
      subst e1
      obtain ⟨b, m1, m2⟩ := C.gd _ g2
      simp only [evE]
      obtain ⟨h1, h2⟩ := glB_ok hX g1
      cases ng
      · rename_i o _ _ _
        cases o <;> first | (exact absurd g3 (by decide)) | exact t_gin m2 h1 m1 h2 (okE a C hX _ g4)
      · rename_i o _ _ _
        cases o <;> first | (exact absurd g3 (by decide)) | exact t_gnotin m2 h1 m1 h2 (okE a C hX _ g4)
    · cases h
  | .gix i j k, X, S, y_, C, hX, x, h => t_val (okE (.gix i j k) C hX x h) (tru_plain h trivial _)
  | .callF i j, X, S, y_, C, hX, x, h => t_val (okE (.callF i j) C hX x h) (tru_plain h trivial _)
  | .callD i j k l, X, S, y_, C, hX, x, h => t_val (okE (.callD i j k l) C hX x h) (tru_plain h trivial _)
  | .bi i j, X, S, y_, C, hX, x, h => t_val (okE (.bi i j) C hX x h) (tru_plain h trivial _)
  | .isi i j, X, S, y_, C, hX, x, h => t_val (okE (.isi i j) C hX x h) (tru_plain h trivial _)
  | .listRg i, X, S, y_, C, hX, x, h => t_val (okE (.listRg i) C hX x h) (tru_plain h trivial _)
  | .minK i j k, X, S, y_, C, hX, x, h => t_val (okE (.minK i j k) C hX x h) (tru_min h _)
  | .comp2 a1 a2 a3 a4 a5 a6 a7 a8, X, S, y_, C, hX, x, h => t_val (okE (.comp2 a1 a2 a3 a4 a5 a6 a7 a8) C hX x h) (tru_c2 h _)
  | .sortK i j k, X, S, y_, C, hX, x, h => t_val (okE (.sortK i j k) C hX x h) (tru_plain h trivial _)
  | .ix i j, X, S, y_, C, hX, x, h => t_val (okE (.ix i j) C hX x h) (tru_plain h trivial _)
  | .sl i j k, X, S, y_, C, hX, x, h => t_val (okE (.sl i j k) C hX x h) (tru_plain h trivial _)
  | .tup i, X, S, y_, C, hX, x, h => t_val (okE (.tup i) C hX x h) (tru_plain h trivial _)
  | .lst i, X, S, y_, C, hX, x, h => t_val (okE (.lst i) C hX x h) (tru_plain h trivial _)
  | .comp i j k l, X, S, y_, C, hX, x, h => t_val (okE (.comp i j k l) C hX x h) (tru_plain h trivial _)
  | .compIf i j k l o, X, S, y_, C, hX, x, h => t_val (okE (.compIf i j k l o) C hX x h) (tru_plain h trivial _)
  | .pop i, X, S, y_, C, hX, x, h => t_val (okE (.pop i) C hX x h) (tru_plain h trivial _)
  | .popAt i j, X, S, y_, C, hX, x, h => t_val (okE (.popAt i j) C hX x h) (tru_plain h trivial _)
  | .append i j, X, S, y_, C, hX, x, h => t_val (okE (.append i j) C hX x h) (tru_plain h trivial _)
  | .rev i, X, S, y_, C, hX, x, h => t_val (okE (.rev i) C hX x h) (tru_plain h trivial _)
  | .join i j, X, S, y_, C, hX, x, h => t_val (okE (.join i j) C hX x h) (tru_plain h trivial _)
  | .fmt i, X, S, y_, C, hX, x, h => t_val (okE (.fmt i) C hX x h) (tru_plain h trivial _)
  | .fstr i, X, S, y_, C, hX, x, h => t_val (okE (.fstr i) C hX x h) (tru_plain h trivial _)
termination_by e => (sizeOf e, 2)
theorem okW : ∀ (e : E) {X : Cx} {S : Sx_} {y_ : Yc} (C : Cok X n B F) (hX : XOk X S y_) (x : Expr), isBO e = true → isE B S e x = true → PW X x (tEvT X.K y_ fun env m => evE F (gv B.G) y_.cx e env m)
  | .and_ a b, X, S, y_, C, hX, x, _, h => by
    simp only [isE] at h
    split at h
    · simp only [Bool.and_eq_true] at h
      simp only [evE]
      have hb : isBO b = true := isBO_of h.2
      exact w_and (okT a C hX _ h.1) (okW b C hX _ hb h.2)
    · cases h
  | .and1 a, X, S, y_, C, hX, x, _, h => by
    simp only [isE] at h
    split at h
    · simp only [evE]
      exact w_and1 (okT a C hX _ h)
    · cases h
  | .or_ a b, X, S, y_, C, hX, x, _, h => by
    simp only [isE] at h
    split at h
    · simp only [Bool.and_eq_true] at h
      simp only [evE]
      have hb : isBO b = true := isBO_of h.2
      exact w_or (okT a C hX _ h.1) (okW b C hX _ hb h.2)
    · cases h
  | .or1 a, X, S, y_, C, hX, x, _, h => by
    simp only [isE] at h
    split at h
    · simp only [evE]
      exact w_or1 (okT a C hX _ h)
    · cases h
  | .nop, X, S, y_, C, hX, x, hn, h | .var _, X, S, y_, C, hX, x, hn, h | .con _, X, S, y_, C, hX, x, hn, h | .glob _, X, S, y_, C, hX, x, hn, h | .bin _ _ _, X, S, y_, C, hX, x, hn, h | .neg _, X, S, y_, C, hX, x, hn, h | .cmp _ _ _, X, S, y_, C, hX, x, hn, h | .chain _ _ _ _ _, X, S, y_, C, hX, x, hn, h | .isN _, X, S, y_, C, hX, x, hn, h
  | .notN _, X, S, y_, C, hX, x, hn, h | .not_ _, X, S, y_, C, hX, x, hn, h | .ife _ _ _, X, S, y_, C, hX, x, hn, h | .call _ _, X, S, y_, C, hX, x, hn, h | .callG _ _, X, S, y_, C, hX, x, hn, h | .meth _ _ _ _ _, X, S, y_, C, hX, x, hn, h | .methG _ _ _ _ _, X, S, y_, C, hX, x, hn, h | .mk _ _ _, X, S, y_, C, hX, x, hn, h | .attr _ _ _, X, S, y_, C, hX, x, hn, h | .xat _ _, X, S, y_, C, hX, x, hn, h | .xis _ _ _, X, S, y_, C, hX, x, hn, h | .dnew, X, S, y_, C, hX, x, hn, h | .dget _ _, X, S, y_, C, hX, x, hn, h | .dgetD _ _ _, X, S, y_, C, hX, x, hn, h | .dcomp _ _ _ _ _, X, S, y_, C, hX, x, hn, h | .stp _ _, X, S, y_, C, hX, x, hn, h | .gin _ _ _ _, X, S, y_, C, hX, x, hn, h | .gix _ _ _, X, S, y_, C, hX, x, hn, h | .compR _ _ _ _, X, S, y_, C, hX, x, hn, h | .compIR _ _ _ _ _, X, S, y_, C, hX, x, hn, h | .bi _ _, X, S, y_, C, hX, x, hn, h | .listRg _, X, S, y_, C, hX, x, hn, h | .sortK _ _ _, X, S, y_, C, hX, x, hn, h | .lst _, X, S, y_, C, hX, x, hn, h | .comp _ _ _ _, X, S, y_, C, hX, x, hn, h | .compIf _ _ _ _ _, X, S, y_, C, hX, x, hn, h
  | .comp2 _ _ _ _ _ _ _ _, X, S, y_, C, hX, x, hn, h | .minK _ _ _, X, S, y_, C, hX, x, hn, h | .isi _ _, X, S, y_, C, hX, x, hn, h | .ix _ _, X, S, y_, C, hX, x, hn, h | .sl _ _ _, X, S, y_, C, hX, x, hn, h | .tup _, X, S, y_, C, hX, x, hn, h | .box _, X, S, y_, C, hX, x, hn, h | .pop _, X, S, y_, C, hX, x, hn, h | .popAt _ _, X, S, y_, C, hX, x, hn, h | .append _ _, X, S, y_, C, hX, x, hn, h | .callF _ _, X, S, y_, C, hX, x, hn, h | .callD _ _ _ _, X, S, y_, C, hX, x, hn, h | .dead, X, S, y_, C, hX, x, hn, h | .isB _ _, X, S, y_, C, hX, x, hn, h | .index _ _, X, S, y_, C, hX, x, hn, h | .rev _, X, S, y_, C, hX, x, hn, h | .join _ _, X, S, y_, C, hX, x, hn, h | .fmt _, X, S, y_, C, hX, x, hn, h | .fstr _, X, S, y_, C, hX, x, hn, h => by cases hn
termination_by e => (sizeOf e, 1)
theorem okA : ∀ (es : Es) {X : Cx} {S : Sx_} {y_ : Yc} (C : Cok X n B F) (hX : XOk X S y_) (xs : List Expr), isEs B S es xs = true → PA X xs (tEvA X.K y_ fun env m => evA F (gv B.G) y_.cx es env m)
  | .nil, X, S, y_, C, hX, xs, h => by
    simp only [isEs] at h
    split at h
    · simp only [evA]
      exact a_nil
    · cases h
  | .cons e es, X, S, y_, C, hX, xs, h => by
    simp only [isEs] at h
    split at h
    · simp only [Bool.and_eq_true] at h
      simp only [evA]
      exact a_cons (okE e C hX _ h.1) (okA es C hX _ h.2) (pl_star (is_pl h.1) _ _)
    · cases h
termination_by es => (sizeOf es, 0)
theorem okJ : ∀ (es : Es) {X : Cx} {S : Sx_} {y_ : Yc} (C : Cok X n B F) (hX : XOk X S y_) (xs : List Expr), isEs B S es xs = true → PJ X xs (tesOf X.K y_ F (gv B.G) es)
  | .nil, X, S, y_, C, hX, xs, h => by
    simp only [isEs] at h
    split at h
    · exact .nil
    · cases h
  | .cons e es, X, S, y_, C, hX, xs, h => by
    simp only [isEs] at h
    split at h
    · simp only [Bool.and_eq_true] at h
      exact .cons (okE e C hX _ h.1) (okJ es C hX _ h.2)
    · cases h
termination_by es => (sizeOf es, 0)
theorem okI : ∀ (it : It) {X : Cx} {S : Sx_} {y_ : Yc} (C : Cok X n B F) (hX : XOk X S y_) (tg x : Expr), isI B S it x (isTupE tg) = true → PI X tg x (tEvI X.K y_ fun env m => evI F (gv B.G) y_.cx it env m) ∧ ∀ v, foldedSetIterable x X.env v = pure v
  | .seq e, X, S, y_, C, hX, tg, x, h => by
    simp only [isI] at h
    simp only [evI]
    exact ⟨i_seq (okE e C hX _ h), fun v => pl_fold (is_pl h) _ v⟩
  | .rng1 e, X, S, y_, C, hX, tg, x, h => by
    simp only [isI] at h
    split at h
    · simp only [Bool.and_eq_true, decide_eq_true_eq] at h
      obtain ⟨⟨e1, g1⟩, h⟩ := h
      subst e1
      simp only [evI]
      exact ⟨i_rng1 (glB_ok hX g1).1 (C.bl _ (by decide)) (okE e C hX _ h) (pl_star (is_pl h) _ _), fun _ => rfl⟩
    · cases h
  | .rng2 a b, X, S, y_, C, hX, tg, x, h => by
    simp only [isI] at h
    split at h
    · simp only [Bool.and_eq_true, decide_eq_true_eq] at h
      obtain ⟨⟨⟨e1, g1⟩, h⟩, h'⟩ := h
      subst e1
      simp only [evI]
      exact ⟨i_rng2 (glB_ok hX g1).1 (C.bl _ (by decide)) (okE a C hX _ h) (okE b C hX _ h') (pl_star (is_pl h) _ _) (pl_star (is_pl h') _ _), fun _ => rfl⟩
    · cases h
  | .zip a b, X, S, y_, C, hX, tg, x, h => by
    simp only [isI] at h
    split at h
    · simp only [Bool.and_eq_true, decide_eq_true_eq] at h
      obtain ⟨⟨⟨⟨e0, e1⟩, g1⟩, h⟩, h'⟩ := h
      subst e1
      simp only [evI]
      cases tg <;> simp only [isTupE, Bool.false_eq_true] at e0
      exact ⟨i_zip (glB_ok hX g1).1 (C.bl _ (by decide)) (okE a C hX _ h) (okE b C hX _ h') (pl_star (is_pl h) _ _) (pl_star (is_pl h') _ _), fun _ => rfl⟩
    · cases h
  | .enum a, X, S, y_, C, hX, tg, x, h => by
    simp only [isI] at h
    split at h
    · simp only [Bool.and_eq_true, decide_eq_true_eq] at h
      obtain ⟨⟨⟨e0, e1⟩, g1⟩, h⟩ := h
      subst e1
      simp only [evI]
      cases tg <;> simp only [isTupE, Bool.false_eq_true] at e0
      exact ⟨i_enum (glB_ok hX g1).1 (C.bl _ (by decide)) (okE a C hX _ h) (pl_star (is_pl h) _ _), fun _ => rfl⟩
    · cases h
  | .dvals _, X, S, y_, C, hX, tg, x, h => by simp [isI] at h
  | .txt e, X, S, y_, C, hX, tg, x, h => by
    simp only [isI] at h
    simp only [evI]
    exact ⟨i_txt (okE e C hX _ h), fun v => pl_fold (is_pl h) _ v⟩
  | .zipS a b, X, S, y_, C, hX, tg, x, h => by
    simp only [isI] at h
    split at h
    · simp only [Bool.and_eq_true, decide_eq_true_eq] at h
      obtain ⟨⟨⟨⟨⟨e0, e1⟩, e2⟩, g1⟩, h⟩, h'⟩ := h
      subst e1 e2
      simp only [evI]
      cases tg <;> simp only [isTupE, Bool.false_eq_true] at e0
      exact ⟨i_zipS (glB_ok hX g1).1 (C.bl _ (by decide)) (okE a C hX _ h) (okE b C hX _ h') (pl_star (is_pl h) _ _) (pl_star (is_pl h') _ _), fun _ => rfl⟩
    · cases h
termination_by it => (sizeOf it, 0)
end
end
end Pv

namespace Pv
open PySem L2
variable [TabT]
/-! ## a, b = x, y and a, b, c = x, y, z: names of one line, stored from the right -/
def parB (S : Sx_) : Tg → Expr → Expr → Bool
  | .tp (.cons (.nm i) (.cons (.nm j) .nil)), .Tuple [.Name x px, .Name y py] _ _, .Tuple [a, b] _ _ => S.calm && decide (S.N[i]? = some x) && decide (S.N[j]? = some y) && decide (i ≠ j) && decide (S.sc.names.lookup x = some .local) && decide (S.sc.names.lookup y = some .local) &&
      !decide (S.xs = some i) && !decide (S.xs = some j) && (py.line == px.line) && ([x, y].eraseDups.length == 2) && !([a, b].all (foldedForSure 8)) && !([a, b].all (constantsAlone 8))
  | .tp (.cons (.nm i) (.cons (.nm j) (.cons (.nm l) .nil))), .Tuple [.Name x px, .Name y py, .Name z pz] _ _, .Tuple [a, b, c] _ _ => S.calm && decide (S.N[i]? = some x) && decide (S.N[j]? = some y) && decide (S.N[l]? = some z) && decide (i ≠ j) && decide (i ≠ l) && decide (j ≠ l) && decide (S.sc.names.lookup x = some .local) && decide (S.sc.names.lookup y = some .local) && decide (S.sc.names.lookup z = some .local) &&
      !decide (S.xs = some i) && !decide (S.xs = some j) && !decide (S.xs = some l) && (py.line == px.line) && (pz.line == px.line) && ([x, y, z].eraseDups.length == 3) && !([a, b, c].all (foldedForSure 8)) && !([a, b, c].all (constantsAlone 8))
  | _, _, _ => false
def notStar : Expr → Bool
  | .Starred .. => false
  | _ => true
theorem noSt {w : Expr} {r : List Expr} (h : plB w = true) : ((w :: r).any fun | .Starred .. => true | _ => false) = (r.any fun | .Starred .. => true | _ => false) := by
  cases w <;> first | rfl | cases h
section
variable {X : Cx} {S : Sx_} {y_ : Yc} {x y z : Str} {a b c : Expr} {px py pz pt p2 pos : Pos}
theorem sw2 (hX : XOk X S y_) (hk : S.sc.kind = .function) (ha : plB a = true) (hb : plB b = true) (hx : S.sc.names.lookup x = some .local) (hy : S.sc.names.lookup y = some .local) (hl : (py.line == px.line) = true) (hd : ([x, y].eraseDups.length == 2) = true) (h1 : [a, b].all (foldedForSure 8) = false) (h2 : [a, b].all (constantsAlone 8) = false) {kt k2} :
    swappedStores [.Tuple [.Name x px, .Name y py] kt pt] (.Tuple [a, b] k2 p2) X.env = pure (some [x, y]) := by
  have hbk : X.env.blockKind = .function := by unfold Env.blockKind; rw [hX.sc, hk]; rfl
  have kx : X.env.kindOf x = some .local := by unfold Env.kindOf; rw [hX.sc]; exact hx
  have ky : X.env.kindOf y = some .local := by unfold Env.kindOf; rw [hX.sc]; exact hy
  have hd' : [x, y].eraseDups.length = 2 := eq_of_beq hd
  have hl' : py.line = px.line := eq_of_beq hl
  have s0 : ([a, b].any fun | .Starred .. => true | _ => false) = false := by
    rw [noSt ha, noSt hb]; rfl
  unfold swappedStores
  simp only [hbk, kx, ky, hl', hd', h1, h2, s0, Expr.pos, List.head?_cons, Option.map_some, Option.getD_some, List.filterMap_cons, List.filterMap_nil, BEq.rfl, Bool.and_self, if_true, List.length_cons, List.length_nil, bne_self_eq_false, Bool.or_false, Bool.false_eq_true, if_false, Bool.true_or, Bool.not_true, pure_bind]
  exact if_neg fun h => Bool.false_ne_true (s0.symm.trans h)
theorem sw3 (hX : XOk X S y_) (hk : S.sc.kind = .function) (ha : plB a = true) (hb : plB b = true) (hc : plB c = true) (hx : S.sc.names.lookup x = some .local) (hy : S.sc.names.lookup y = some .local) (hz : S.sc.names.lookup z = some .local) (hl : (py.line == px.line) = true) (hl2 : (pz.line == px.line) = true) (hd : ([x, y, z].eraseDups.length == 3) = true) (h1 : [a, b, c].all (foldedForSure 8) = false) (h2 : [a, b, c].all (constantsAlone 8) = false) {kt k2} :
    swappedStores [.Tuple [.Name x px, .Name y py, .Name z pz] kt pt] (.Tuple [a, b, c] k2 p2) X.env = pure (some [x, y, z]) := by
  have hbk : X.env.blockKind = .function := by unfold Env.blockKind; rw [hX.sc, hk]; rfl
  have kx : X.env.kindOf x = some .local := by unfold Env.kindOf; rw [hX.sc]; exact hx
  have ky : X.env.kindOf y = some .local := by unfold Env.kindOf; rw [hX.sc]; exact hy
  have kz : X.env.kindOf z = some .local := by unfold Env.kindOf; rw [hX.sc]; exact hz
  have hd' : [x, y, z].eraseDups.length = 3 := eq_of_beq hd
  have hl' : py.line = px.line := eq_of_beq hl
  have hl2' : pz.line = px.line := eq_of_beq hl2
  have s0 : ([a, b, c].any fun | .Starred .. => true | _ => false) = false := by
    rw [noSt ha, noSt hb, noSt hc]; rfl
  unfold swappedStores
  simp only [hbk, kx, ky, kz, hl', hl2', hd', h1, h2, s0, Expr.pos, List.head?_cons, Option.map_some, Option.getD_some, List.filterMap_cons, List.filterMap_nil, BEq.rfl, Bool.and_self, if_true, List.length_cons, List.length_nil, bne_self_eq_false, Bool.or_false, Bool.false_eq_true, if_false, Bool.or_true, Bool.not_true, pure_bind]
  exact if_neg fun h => Bool.false_ne_true (s0.symm.trans h)
end
section
variable {K : PySem.W.Frag} {y_ : Yc} {rs : RA} {i j l : Nat}
def rTup_ (rs : RA) : RE := fun env m => (rs env m).bind fun ds m => .of (tupD ds) m
theorem par2_read (oi : y_.off i) (oj : y_.off j) (E : Ends) (σ : L2.St) (H : Hp) (h : tEvS K y_ (rAsg_ (.tp (.cons (.nm i) (.cons (.nm j) .nil))) (rTup_ rs)) E σ H) : tPar i j (tEvA K y_ rs) E σ H := by
  obtain ⟨Z, ph, env, m, re, wd, q⟩ := h
  refine ⟨Z, ph, env, m, re, wd, ?_⟩
  unfold rAsg_ rTup_ at q
  cases e : rs env m with
  | no => rw [e] at q; exact q
  | ex x m1 => rw [e] at q; exact fun ph' H' cls d s w r => q ph' H' σ s w (re.mono s) cls d r
  | ok ds m1 =>
    rw [e] at q
    intro ph1 H1 s1 w1 vs rv
    have q : FinS K y_ Z ph H ((Rz.of (tupD ds) m1).st env fun d m => (bindTg m _ d env).map fun e => (.nx, e, m)) E := q
    unfold tupD at q
    split at q
    · have q : FinS K y_ Z ph H ((bindTg m1 (.tp (.cons (.nm i) (.cons (.nm j) .nil))) (.tup ds) env).map fun e => (.nx, e, m1)) E := q
      obtain ⟨e1, h2, q⟩ := q.map
      match ds, h2, rv with
      | [d1, d2], h2, .cons r1 (.cons r2 .nil) =>
        simp only [bindTg, bindTgs, Option.bind_some, Option.some.injEq] at h2
        subst h2
        exact ⟨_, _, rfl, q ph1 H1 _ s1 w1 (((re.mono s1).set r1 i oi).set r2 j oj)⟩
      | [], h2, _ => simp [bindTg, bindTgs] at h2
      | [_], h2, _ => simp [bindTg, bindTgs] at h2
      | _ :: _ :: _ :: _, h2, _ => simp [bindTg, bindTgs] at h2
    · exact q.elim
theorem par3_read (oi : y_.off i) (oj : y_.off j) (ol : y_.off l) (E : Ends) (σ : L2.St) (H : Hp) (h : tEvS K y_ (rAsg_ (.tp (.cons (.nm i) (.cons (.nm j) (.cons (.nm l) .nil)))) (rTup_ rs)) E σ H) : tPar3 i j l (tEvA K y_ rs) E σ H := by
  obtain ⟨Z, ph, env, m, re, wd, q⟩ := h
  refine ⟨Z, ph, env, m, re, wd, ?_⟩
  unfold rAsg_ rTup_ at q
  cases e : rs env m with
  | no => rw [e] at q; exact q
  | ex x m1 => rw [e] at q; exact fun ph' H' cls d s w r => q ph' H' σ s w (re.mono s) cls d r
  | ok ds m1 =>
    rw [e] at q
    intro ph1 H1 s1 w1 vs rv
    have q : FinS K y_ Z ph H ((Rz.of (tupD ds) m1).st env fun d m => (bindTg m _ d env).map fun e => (.nx, e, m)) E := q
    unfold tupD at q
    split at q
    · have q : FinS K y_ Z ph H ((bindTg m1 (.tp (.cons (.nm i) (.cons (.nm j) (.cons (.nm l) .nil)))) (.tup ds) env).map fun e => (.nx, e, m1)) E := q
      obtain ⟨e1, h2, q⟩ := q.map
      match ds, h2, rv with
      | [d1, d2, d3], h2, .cons r1 (.cons r2 (.cons r3 .nil)) =>
        simp only [bindTg, bindTgs, Option.bind_some, Option.some.injEq] at h2
        subst h2
        exact ⟨_, _, _, rfl, q ph1 H1 _ s1 w1 ((((re.mono s1).set r1 i oi).set r2 j oj).set r3 l ol)⟩
      | [], h2, _ => simp [bindTg, bindTgs] at h2
      | [_], h2, _ => simp [bindTg, bindTgs] at h2
      | [_, _], h2, _ => simp [bindTg, bindTgs] at h2
      | _ :: _ :: _ :: _ :: _, h2, _ => simp [bindTg, bindTgs] at h2
    · exact q.elim
end
theorem okPar {n : Nat} {B : Tb} {F : Fn} {X : Cx} {S : Sx_} {y_ : Yc} (C : Cok X n B F) (hX : XOk X S y_) (hk : S.sc.kind = .function) (t : Tg) (as : Es) {tg x : Expr} {pos : Pos} (h1 : parB S t tg x = true) (h2 : isE B S (.tup as) x = true) :
    PS X (.Assign [tg] x pos) (tEvS X.K y_ fun env m => evS F (gv B.G) B.xf (.asg t (.tup as)) y_.cx env m) := by
  simp only [evS]
  unfold parB at h1
  split at h1
  · simp only [Bool.and_eq_true, decide_eq_true_eq, Bool.not_eq_true', decide_eq_false_iff_not] at h1
    obtain ⟨⟨⟨⟨⟨⟨⟨⟨⟨⟨⟨g0, g1⟩, g2⟩, g3⟩, g4⟩, g5⟩, g6⟩, g7⟩, g8⟩, g9⟩, g10⟩, g11⟩ := h1
    simp only [isE] at h2
    have hp := is_pls h2
    have pa := hp _ List.mem_cons_self
    have pb := hp _ (List.mem_cons_of_mem _ List.mem_cons_self)
    have hA := okA as C hX _ h2
    refine ps_imp (ps_par (hX.calm g0) hX.nd (by rw [hX.n]; exact g1) (by rw [hX.n]; exact g2) g3 (by rw [hX.sc]; exact g4) (by rw [hX.sc]; exact g5) hA (sw2 hX hk pa pb g4 g5 g8 g9 g10 g11) ?_) ?_
    · simp only [swapsWithSole]; rfl
    · intro E σ H h
      refine par2_read (hX.off g6) (hX.off g7) E σ H ?_
      simp only [evE] at h
      exact h
  · simp only [Bool.and_eq_true, decide_eq_true_eq, Bool.not_eq_true', decide_eq_false_iff_not] at h1
    obtain ⟨⟨⟨⟨⟨⟨⟨⟨⟨⟨⟨⟨⟨⟨⟨⟨⟨g0, g1⟩, g2⟩, g3⟩, g4⟩, g5⟩, g6⟩, g7⟩, g8⟩, g9⟩, g10⟩, g11⟩, g12⟩, g13⟩, g14⟩, g15⟩, g16⟩, g17⟩ := h1
    simp only [isE] at h2
    have hp := is_pls h2
    have pa := hp _ List.mem_cons_self
    have pb := hp _ (List.mem_cons_of_mem _ List.mem_cons_self)
    have pc := hp _ (List.mem_cons_of_mem _ (List.mem_cons_of_mem _ List.mem_cons_self))
    have hA := okA as C hX _ h2
    refine ps_imp (ps_par3 (hX.calm g0) hX.nd (by rw [hX.n]; exact g1) (by rw [hX.n]; exact g2) (by rw [hX.n]; exact g3) g4 g5 g6 (by rw [hX.sc]; exact g7) (by rw [hX.sc]; exact g8) (by rw [hX.sc]; exact g9) hA (sw3 hX hk pa pb pc g7 g8 g9 g13 g14 g15 g16 g17) ?_) ?_
    · simp only [swapsWithSole]; rfl
    · intro E σ H h
      refine par3_read (hX.off g10) (hX.off g11) (hX.off g12) E σ H ?_
      simp only [evE] at h
      exact h
  · cases h1
end Pv

namespace Pv
open PySem PySem.Spec PyProof.Rows PySem.W L2
variable [TabT]
/-! ## a, *b = a tuple -/
def gStar (K : PySem.W.Frag) (t1 t2 : TG) : TG := fun v σ H Q => ∃ a x xs, v = .ref a ∧ SqT K H a (x :: xs) ∧ xs.length ≤ 1000 ∧ ∀ l, H l = none → t1 x σ (upd H l (.lst xs)) fun σ' H' => t2 (.ref l) σ' H' Q
theorem pg_star {X : Cx} {e1 e2 : Expr} {p pos : Pos} {k : Nat} {t1 t2 : TG} (hc : X.calm = true) (h1 : PG X e1 t1) (h2 : PG X e2 t2) (hs : assignEach [e1, .Starred e2 p] X.env = [(false, assign e1 X.env), (true, assign e2 X.env)]) : PG X (.Tuple [e1, .Starred e2 p] k pos) (gStar X.K t1 t2) := by
  refine ⟨fun pins s σ H v u Q I r hw => ?_⟩
  obtain ⟨a, x, xs, e1', hq, hl, hw⟩ := hw
  subst e1'
  cases r
  obtain ⟨its, rv, ht, hz⟩ := I.tuple hq
  cases rv with
  | @cons _ u0 _ us rx rv =>
  have hh := I.ok.hd hc
  have hlen : us.length ≤ 1000 := by rw [← rv.length]; exact hl
  have hlt : a ≠ s.heap.objs.size := by obtain ⟨o, ho, _⟩ := ht; exact Nat.ne_of_lt (Heap.lt_size ho)
  rw [assign_Tuple]
  refine wpAny_bind (wpAny_standAt ?_)
  unfold unpack
  rw [hs]
  show wpAny _ _ (holding [Value.ref a] (unpackItems (.ref a) 2 (some 1)) >>= fun vs => assignInOrder [assign e1 X.env, assign e2 X.env] vs) _ _ _
  refine wpAny_bind (wpAny_holding ?_)
  unfold unpackItems
  refine wpAny_bind ?_
  unfold notIterableAtAll
  refine wpAny_bind (wpAny_specialOf ht.typeIs slot_tuple_iter.lookup ?_)
  refine wpAny_pure ?_
  simp only [Bool.false_eq_true, if_false]
  refine wpAny_bind (wpAny_holding (iter_tuple ht ?_))
  refine wpAny_bind (wpAny_holding (draw_tuple hlt 1 0 _ _ ⟨_, Heap.get?_push_size _ rfl, rfl, rfl⟩ (ht.push _) (by simp) fun h₁ hit₁ hs₁ => ?_))
  have hl₁ : IsTup h₁ a (u0 :: us).toArray := (ht.push _).extBut hs₁.extBut hlt
  rw [Nat.zero_add] at hit₁
  have hit₁' := hit₁
  obtain ⟨oi, hoi, _⟩ := hit₁'
  have hl₁' := hl₁
  obtain ⟨ol, hol, _⟩ := hl₁'
  rw [List.drop_zero]
  show wpAny _ _ (if ([u0] : List Value).length < 1 then _ else _) _ _ _
  rw [if_neg (by simp)]
  refine wpAny_bind (wpAny_holding (kun_collect (s := { s with heap := h₁ }) (T := "tuple_iterator") (.inr (.inr (.inr rfl))) (Walks.tuple (A := X.A.in1) hh s.heap.objs.size a hlt (u0 :: us).toArray) (fun j u st => st.1.typeIs) (k := 1) (by simp) ⟨hit₁, hl₁⟩ (Heap.lt_size hoi) (Heap.lt_size hol) (fun h₂ tk hk => ?_) (by rw [sizeLine_eq]; simp; omega)))
  show wpAny _ _ (if us.length < 0 then _ else _) _ _ _
  rw [if_neg (Nat.not_lt_zero _)]
  show wpAny _ _ (newList (us.take (us.length - 0)) >>= fun d => pure ([u0] ++ [d] ++ us.drop (us.length - 0))) _ _ _
  rw [Nat.sub_zero, List.take_length, List.drop_length]
  have he : ∀ b o, s.heap.get? b = some o → h₂.get? b = some o := fun b o e => hk b o (Nat.ne_of_lt (Heap.lt_size e)) (hs₁.extBut b o (Nat.ne_of_lt (Heap.lt_size e)) (Heap.get?_push_of_some _ e))
  have I2 : Inv X pins σ H { s with heap := h₂, toks := tk } := I.kept he
  have hf : H h₂.objs.size = none := I2.hok.fresh (Nat.le_refl _)
  refine wpAny_bind (wpAny_newList (s := { s with heap := h₂, toks := tk }) ?_ (by rw [sizeLine_eq]; omega))
  refine wpAny_pure ?_
  have z : xs.length ≤ sizeLine := by rw [sizeLine_eq]; omega
  have I3 : Inv X pins σ (upd H h₂.objs.size (.lst xs)) { s with heap := h₂.push { cls := .type "list", data := .seq us.toArray }, toks := tk } := I2.laid (fun b u e => Heap.get?_push_of_some _ e) (Nat.le_refl _) ⟨z, us, 0, rv, Heap.get?_push_size _ rfl⟩
  have q := hw h₂.objs.size hf
  refine assignInOrder_cons (thn (h1.run pins _ σ _ x u0 _ I3 rx q) fun _ s1 ⟨σ1, H1, I1, q1⟩ => ?_)
  refine assignInOrder_cons (thn (h2.run pins s1 σ1 H1 (.ref h₂.objs.size) (.ref h₂.objs.size) _ I1 rfl q1) fun _ s2 ⟨σ2, H2, I2', q2⟩ => ?_)
  exact assignInOrder_nil ⟨σ2, H2, I2', q2⟩
section
variable {X : Cx} {y_ : Yc} {ra : RE} {x : Expr} {pos p p2 : Pos} {n1 n2 : Expr} {k : Nat}
def rStar_ (i j : Nat) (ra : RE) : RS := fun env m => (ra env m).st env fun d m => (starD i j d env).map fun e => (.nx, e, m)
theorem star_read {K : PySem.W.Frag} {i j : Nat} (oi : y_.off i) (oj : y_.off j) (E : Ends) (σ : L2.St) (H : Hp) (h : tEvS K y_ (rStar_ i j ra) E σ H) : tAsg (tEv K y_ ra) (gStar K (gName i) (gName j)) E σ H := by
  obtain ⟨Z, ph, env, m, re, wd, q⟩ := h
  exact es_bind re wd q fun d m1 ph1 H1 v s1 w1 re1 r1 q => by
    obtain ⟨e1, h2, q⟩ := q.map
    unfold starD at h2
    split at h2
    · rename_i d0 ds
      split at h2
      · rename_i hl
        cases h2
        cases r1 with
        | tup h3 rs =>
        cases rs with
        | @cons v0 _ vs _ r0 rs =>
        refine ⟨_, v0, vs, rfl, h3, by rw [rs.len]; exact hl, fun l hf => ?_⟩
        have s2 : Sx ph1 H1 ph1 (upd H1 l (.lst vs)) := Sx.upd hf
        have w2 : Wd K Z ph1 m1 (upd H1 l (.lst vs)) := w1.new hf
        exact q ph1 _ _ s2 w2 (((re1.mono s2).set (r0.mono s2) i oi).set (.lst upd_same (w1.np hf) (w1.nz hf) (rs.mono s2)) j oj)
      · cases h2
    · cases h2
theorem s_star {i j : Nat} (hc : X.calm = true) (oi : y_.off i) (oj : y_.off j) (he : PE X x (tEv X.K y_ ra)) (h1 : PG X n1 (gName i)) (h2 : PG X n2 (gName j)) (hs : swapsWithSole [.Tuple [n1, .Starred n2 p] k p2] x pos.line X.env = pure false) (hw : swappedStores [.Tuple [n1, .Starred n2 p] k p2] x X.env = pure none) (ha : assignEach [n1, .Starred n2 p] X.env = [(false, assign n1 X.env), (true, assign n2 X.env)] := by rfl) :
    PS X (.Assign [.Tuple [n1, .Starred n2 p] k p2] x pos) (tEvS X.K y_ (rStar_ i j ra)) := ps_imp (ps_asg he (pg_star hc h1 h2 ha) hs hw rfl) (star_read oi oj)
end
end Pv

namespace Pv
open PySem L2
variable [TabT]

/-! ## the check of statements -/
def isLC : Expr → Bool
  | .ListComp .. => true
  | _ => false
def isDC : Expr → Bool
  | .DictComp .. => true
  | _ => false
/-- whether a store is done within the comprehension's frame -/
def swV (S : Sx_) (tg x : Expr) : Bool := match x with
  | .DictComp _ _ _ scope vp => match tg with
    | .Name t p => decide (S.sc.names.lookup t = some .local) && (p.line == vp.line) && !(scope.names.any fun (n, k) => n == t && (k == .local || k == .cell))
    | _ => false
  | .ListComp _ _ scope vp => match tg with
    | .Name t p => decide (S.sc.names.lookup t = some .local) && (p.line == vp.line) && !(scope.names.any fun (n, k) => n == t && (k == .local || k == .cell))
    | _ => false
  | _ => false
def nmOB (S : Sx_) (n : Option Str) (i : Option Nat) : Bool := match n, i with
  | none, none => true
  | some n, some j => decide (S.N[j]? = some n) && decide (S.sc.names.lookup n = some .local)
  | _, _ => false
def isTupT : E → Bool
  | .tup _ => true
  | _ => false
section
variable (B : Tb)
def xin (c : Str) : Bool := B.X.any fun t => decide (t.nm = c)
def qin (c : Str) : Bool := decide (c ∈ B.qs)
def yesB (c : Str) (yes no : List Str) : Bool := (yes.all fun y => xin B y) && (no.all fun y => xin B y) && B.X.all fun t => (!decide (t.nm ∈ yes) || decide (c ∈ t.sup)) && (!decide (t.nm ∈ no) || !decide (c ∈ t.sup))
mutual
def isS (c_ : Sx_) : S → Stmt → Bool
  | .asg t e, st => match st with
    | .Assign [tg] x _ => isE B c_ e x && ((isTg c_ t tg && !(isTupE tg && isTupE x) && !(isDC x && swV c_ tg x)) || (isTupT e && parB c_ t tg x))
    | _ => false
  | .setix o i e, st => match st with
    | .Assign [.Subscript xo xi _] x _ => isE B c_ o xo && isE B c_ i xi && isE B c_ e x
    | _ => false
  | .aug i op e, st => match st with
    | .AugAssign (.Name s _) o x _ => augB op o && decide (c_.N[i]? = some s) && locB c_ s && !decide (c_.xs = some i) && isE B c_ e x
    | _ => false
  | .ex e, st => match st with
    | .Expr x _ => isE B c_ e x && !isLC x && !isDC x
    | _ => false
  | .ife c a b, st => match st with
    | .If x ys zs _ => isE B c_ c x && isB c_ a ys && isB c_ b zs
    | _ => false
  | .for_ t it b, st => match st with
    | .For tg x ys [] _ => c_.calm && isTg c_ t tg && isI B c_ it x (isTupE tg) && isB c_ b ys
    | _ => false
  | .forR t v b, st => match st with
    | .For tg x ys [] _ => c_.calm && isTg c_ t tg && isE B c_ v x && isB c_ b ys
    | _ => false
  | .while_ c b, st => match st with
    | .While x ys [] _ => isE B c_ c x && isB c_ b ys
    | _ => false
  | .ret e, st => match st with
    | .Return (some x) _ => isE B c_ e x
    | _ => false
  | .brk, st => match st with
    | .Break _ => true
    | _ => false
  | .cont, st => match st with
    | .Continue _ => true
    | _ => false
  | .dead, _ => true
  | .pass, st => match st with
    | .Pass _ => true
    | _ => false
  | .retN, st => match st with
    | .Return none _ => true
    | _ => false
  | .setat o c f e, st => match st with
    | .Assign [.Attribute xo g _] x _ => decide (g = f) && atB B c f && isE B c_ o xo && isE B c_ e x
    | _ => false
  | .augat o c f op e, st => match st with
    | .AugAssign (.Attribute xo g _) oo x _ => augB op oo && decide (g = f) && atB B c f && isE B c_ o xo && isE B c_ e x
    | _ => false
  | .star i j e, st => match st with
    | .Assign [.Tuple [.Name x _, .Starred (.Name y _) _] _ _] z _ => c_.calm && isE B c_ e z && !isTupE z && decide (c_.N[i]? = some x) && locB c_ x && !decide (c_.xs = some i) && decide (c_.N[j]? = some y) && locB c_ y && !decide (c_.xs = some j)
    | _ => false
  | .raise_ c as, st => match st with
    | .Raise (some (.Call (.Name n _) (z :: zs) [] _)) none _ => c_.calm && decide (n = c) && glB c_ c && xin B c && isEs B c_ as (z :: zs)
    | _ => false
  | .try_ b hs els, st => match st with
    | .Try ys (h0 :: hds) zs [] _ => c_.calm && decide (c_.xs = none) && isB c_ b ys && isB c_ els zs && isH c_ hs (h0 :: hds)
    | _ => false
def isB (c_ : Sx_) : Ss → List Stmt → Bool
  | .nil, sts => match sts with
    | [] => true
    | _ => false
  | .cons s ss, sts => match sts with
    | st :: r => isS c_ s st && isB c_ ss r
    | _ => false
def isH (c_ : Sx_) : Hs → List ExceptHandler → Bool
  | .nil, hds => match hds with
    | [] => true
    | _ => false
  | .cons c yes no i b hs, hds => match hds with
    | .ExceptHandler (some (.Name x _)) n (b0 :: su) _ :: r => decide (x = c) && glB c_ c && qin B c && yesB B c yes no && nmOB c_ n i && isB (c_.suite i yes) b (b0 :: su) && isH c_ hs r
    | _ => false
end
end
theorem xin_ok {B : Tb} {c : Str} (h : xin B c = true) : ∃ t ∈ B.X, t.nm = c := by
  obtain ⟨t, h1, h2⟩ := List.any_eq_true.mp h
  exact ⟨t, h1, of_decide_eq_true h2⟩
theorem xf_ok {B : Tb} {c : Str} (h : xin B c = true) : ∃ t ∈ B.X, t.nm = c ∧ B.xf c = some t.fs := by
  unfold Tb.xf
  cases e : B.X.find? fun t => decide (t.nm = c) with
  | none =>
    obtain ⟨t, h1, h2⟩ := xin_ok h
    have := List.find?_eq_none.mp e t h1
    simp [h2] at this
  | some t =>
    have h1 := List.find?_some e
    exact ⟨t, List.mem_of_find?_eq_some e, of_decide_eq_true h1, rfl⟩
theorem sw_eq {X : Cx} {S : Sx_} {y_ : Yc} (hX : XOk X S y_) (hk : S.sc.kind = .function) {x : Expr} (h : plB x = true) (tg : Expr) (l : Nat) : swapsWith x (some tg) l X.env = pure (swV S tg x) := by
  have hb : X.env.blockKind = .function := by unfold Env.blockKind; rw [hX.sc, hk]; rfl
  cases x <;> first | rfl | (cases h; done) | skip
  all_goals
    cases tg <;> first | rfl | skip
    rename_i t p
    have ky : X.env.kindOf t = S.sc.names.lookup t := by unfold Env.kindOf; rw [hX.sc]
    unfold swapsWith swV
    simp only [hb, ky, Expr.pos]
    have e : (List.lookup t S.sc.names == some NameKind.local) = decide (List.lookup t S.sc.names = some NameKind.local) := by rw [Bool.eq_iff_iff]; simp
    rw [e]
    rfl
theorem sw_eq' {X : Cx} {S : Sx_} {y_ : Yc} (hX : XOk X S y_) (hk : S.sc.kind = .function) {x : Expr} (h : plB x = true) {tg : Expr} {l : Nat} : swapsWithSole [tg] x l X.env = pure (swV S tg x) := sw_eq hX hk h tg l
theorem sw_none {X : Cx} {x : Expr} (h : plB x = true) (h' : isLC x = false) (h2 : isDC x = false) (l : Nat) : swapsWith x none l X.env = pure false := by
  cases x <;> first | rfl | (cases h; done) | (cases h'; done) | (cases h2; done)
theorem stores_none {X : Cx} {tg x : Expr} (h : (isTupE tg && isTupE x) = false) {S : Sx_} {t : Tg} (ht : isTg S t tg = true) : swappedStores [tg] x X.env = pure none := by
  cases tg <;> first | rfl | (cases t <;> simp [isTg] at ht; done) | skip
  cases x <;> first | rfl | (cases h; done)
def isCp : E → Bool
  | .comp .. => true
  | .compR .. => true
  | .compIR .. => true
  | .compIf .. => true
  | .comp2 .. => true
  | _ => false
theorem isCp_of {B : Tb} {S : Sx_} {a : E} {z : Expr} {gs : List Comprehension} {sc : Scope} {vp : Pos} (h1 : isNew a = true) (h : isE B S a (.ListComp z gs sc vp) = true) : isCp a = true := by
  cases a <;> first | rfl | (exfalso; simp [isNew] at h1; done) | (exfalso; simp [isE, sortP, minP] at h; done)
/-- what the frame is -/
structure FrO (X : Cx) : Prop where
  ps : PassesOwn (model X.prog X.w) X.A X.env X.xe
  st : X.stack = X.env :: X.outer
  fr : X.env.frame = some X.env.locals
theorem FrO.tr {X : Cx} (h : FrO X) (pn : List (Addr × Obj)) {xe : Value → Shared → Prop} (hp : PassesOwn (model X.prog X.w) X.A X.env xe) : FrO (X.tr pn xe) := ⟨hp, h.st, h.fr⟩
theorem FrO.suite {X : Cx} (h : FrO X) (a : Addr) (pn : List (Addr × Obj)) : FrO (X.suite a pn) := ⟨PassesOwn.never, h.st, h.fr⟩
section
variable {n : Nat} {B : Tb} {F : Fn}
/-- name = [..] in the comprehension's frame -/
theorem okLc {X : Cx} {S : Sx_} {y_ : Yc} (C : Cok X n B F) (hX : XOk X S y_) (hk : S.sc.kind = .function) (e : E) (hn : isCp e = true) {x : Expr} (h : isE B S e x = true) {i : Nat} {y : Str} {py pos : Pos} (hi : S.N[i]? = some y) (hs : swV S (.Name y py) x = true) :
    ∃ te, PS X (.Assign [.Name y py] x pos) (tAsg te (gName i)) ∧ ∀ σ H Q, tEvN X.K y_ (fun env m => evE F (gv B.G) y_.cx e env m) σ H Q → te σ H Q := by
  have hsw := fun l => sw_eq hX hk (is_pl h) (.Name y py) l
  rw [hs] at hsw
  have hy : X.N[i]? = some y := by rw [hX.n]; exact hi
  have hl : ∀ {z gs sc vp}, x = .ListComp z gs sc vp → X.env.scope.names.lookup y = some .local := fun ex => by
    subst ex
    simp only [swV, Bool.and_eq_true, decide_eq_true_eq] at hs
    rw [hX.sc]
    exact hs.1.1
  cases e <;> first | (cases hn; done) | skip
  · rename_i own t v e
    simp only [isE] at h
    split at h
    · rename_i z tg it' a scope vp
      simp only [Bool.and_eq_true, decide_eq_true_eq] at h
      obtain ⟨⟨⟨⟨⟨⟨⟨h0, h0'⟩, e1⟩, h2⟩, h3⟩, h4⟩, h5⟩, h6⟩ := h
      subst e1
      have ok : BlkOk X.N X.env.scope scope own := by rw [hX.n, hX.sc]; exact blkOk_by h2
      have hcx : yN.cx = y_.cx := (hX.cx0 h0').symm
      refine ⟨_, s_setLcR (hX.calm h0) hX.nd hy (hl rfl) (hsw _) (okE v C hX it' h4) ok (fun s H c cl fp => okTg (hX.blk h0 s H scope c cl fp) t tg h5) (fun s H c cl fp => okE e (C.blk s H scope _ fp) (hX.blk h0 s H scope c cl fp) z h6) (fun v => pl_fold (is_pl h4) _ v), fun σ H Q hq => ?_⟩
      simp only [evE] at hq
      rw [hcx]
      exact compR_read h3 σ H Q hq
    · cases h
  · rename_i own t v c e
    simp only [isE] at h
    split at h
    · rename_i z tg it' y' a scope vp
      simp only [Bool.and_eq_true, decide_eq_true_eq] at h
      obtain ⟨⟨⟨⟨⟨⟨⟨⟨h0, h0'⟩, e1⟩, h2⟩, h3⟩, h4⟩, h5⟩, h7⟩, h6⟩ := h
      subst e1
      have ok : BlkOk X.N X.env.scope scope own := by rw [hX.n, hX.sc]; exact blkOk_by h2
      have hcx : yN.cx = y_.cx := (hX.cx0 h0').symm
      refine ⟨_, s_setLcIR (hX.calm h0) hX.nd hy (hl rfl) (hsw _) (okE v C hX it' h4) ok (fun s H c cl fp => okTg (hX.blk h0 s H scope c cl fp) t tg h5) (fun s H c' cl fp => okT c (C.blk s H scope _ fp) (hX.blk h0 s H scope c' cl fp) y' h7) (fun s H c cl fp => okE e (C.blk s H scope _ fp) (hX.blk h0 s H scope c cl fp) z h6) (fun v => pl_fold (is_pl h4) _ v), fun σ H Q hq => ?_⟩
      simp only [evE] at hq
      rw [hcx]
      exact compIR_read h3 σ H Q hq
    · cases h
  · rename_i own t it e
    simp only [isE] at h
    split at h
    · rename_i z tg it' a scope vp
      simp only [Bool.and_eq_true, decide_eq_true_eq] at h
      obtain ⟨⟨⟨⟨⟨⟨⟨h0, h0'⟩, e1⟩, h2⟩, h3⟩, h4⟩, h5⟩, h6⟩ := h
      subst e1
      have ok : BlkOk X.N X.env.scope scope own := by rw [hX.n, hX.sc]; exact blkOk_by h2
      have hI := okI it C hX tg it' h4
      have hcx : yN.cx = y_.cx := (hX.cx0 h0').symm
      refine ⟨_, s_setLc (hX.calm h0) hX.nd hy (hl rfl) (hsw _) hI.1 ok (fun s H c cl fp => okTg (hX.blk h0 s H scope c cl fp) t tg h5) (fun s H c cl fp => okE e (C.blk s H scope _ fp) (hX.blk h0 s H scope c cl fp) z h6) hI.2, fun σ H Q hq => ?_⟩
      simp only [evE] at hq
      rw [hcx]
      exact comp_read h3 σ H Q hq
    · cases h
  · rename_i own t it c e
    simp only [isE] at h
    split at h
    · rename_i z tg it' y' a scope vp
      simp only [Bool.and_eq_true, decide_eq_true_eq] at h
      obtain ⟨⟨⟨⟨⟨⟨⟨⟨h0, h0'⟩, e1⟩, h2⟩, h3⟩, h4⟩, h5⟩, h7⟩, h6⟩ := h
      subst e1
      have ok : BlkOk X.N X.env.scope scope own := by rw [hX.n, hX.sc]; exact blkOk_by h2
      have hI := okI it C hX tg it' h4
      have hcx : yN.cx = y_.cx := (hX.cx0 h0').symm
      refine ⟨_, s_setLcI (hX.calm h0) hX.nd hy (hl rfl) (hsw _) hI.1 ok (fun s H c cl fp => okTg (hX.blk h0 s H scope c cl fp) t tg h5) (fun s H c' cl fp => okT c (C.blk s H scope _ fp) (hX.blk h0 s H scope c' cl fp) y' h7) (fun s H c cl fp => okE e (C.blk s H scope _ fp) (hX.blk h0 s H scope c cl fp) z h6) hI.2, fun σ H Q hq => ?_⟩
      simp only [evE] at hq
      rw [hcx]
      exact compI_read h3 σ H Q hq
    · cases h
  · rename_i own t it vs1 t1 b c e
    simp only [isE] at h
    split at h
    · rename_i z tg i0 a tg1 i1 y' a1 scope vp
      split at h
      · rename_i nm w ew
        obtain ⟨q1, q2, rfl⟩ := rgP_some ew
        simp only [Bool.and_eq_true, decide_eq_true_eq, List.all_eq_true] at h
        obtain ⟨⟨⟨⟨⟨⟨⟨⟨⟨⟨⟨⟨⟨⟨⟨h0, h0'⟩, e1⟩, e2⟩, h2⟩, h3⟩, h3'⟩, hv⟩, h4⟩, h5⟩, h5'⟩, e3⟩, hg⟩, h8⟩, h7⟩, h6⟩ := h
        subst e1 e2 e3
        have ok : BlkOk X.N X.env.scope scope own := by rw [hX.n, hX.sc]; exact blkOk_by h2
        have hI := okI it C hX tg i0 h4
        have hcx : yN.cx = y_.cx := (hX.cx0 h0').symm
        refine ⟨_, s_setLc2 (hX.calm h0) hX.nd hy (hl rfl) (hsw _) hI.1 ok hv (fun s H c cl fp => okTg (hX.blk h0 s H scope c cl fp) t tg h5) (fun s H c' cl fp => i_rg (p := q1) (pos := q2) (glB_ok (hX.blk h0 s H scope c' cl fp) hg).1 ((C.blk s H scope (compEnvC scope cl c' X.env) fp).bl _ (by decide)) (okE b (C.blk s H scope _ fp) (hX.blk h0 s H scope c' cl fp) w h8) (pl_star (is_pl h8) _ _)) (fun s H c cl fp => okTg (hX.blk h0 s H scope c cl fp) t1 tg1 h5') (fun s H c' cl fp => okT c (C.blk s H scope _ fp) (hX.blk h0 s H scope c' cl fp) y' h7) (fun s H c cl fp => okE e (C.blk s H scope _ fp) (hX.blk h0 s H scope c cl fp) z h6) hI.2 (fun _ _ => rfl), fun σ H Q hq => ?_⟩
        simp only [evE] at hq
        rw [hcx]
        exact comp2_read h3 h3' σ H Q hq
      · cases h
    · cases h
theorem okAsg {X : Cx} {S : Sx_} {y_ : Yc} (C : Cok X n B F) (hX : XOk X S y_) (hk : S.sc.kind = .function) (t : Tg) (e : E) {tg x : Expr} {pos : Pos} (h1 : isTg S t tg = true) (h2 : isE B S e x = true) (h3 : (isTupE tg && isTupE x) = false) (h4 : (isDC x && swV S tg x) = false) :
    PS X (.Assign [tg] x pos) (tEvS X.K y_ fun env m => evS F (gv B.G) B.xf (.asg t e) y_.cx env m) := by
  simp only [evS]
  by_cases hs : swV S tg x = true
  · have hx : ∃ z gs sc vp, x = .ListComp z gs sc vp := by
      rw [hs, Bool.and_true] at h4
      cases x <;> first | exact ⟨_, _, _, _, rfl⟩ | (cases h4; done) | (simp [swV] at hs; done)
    obtain ⟨z, gs, sc, vp, rfl⟩ := hx
    have htg : ∃ y py, tg = .Name y py := by
      cases tg <;> first | exact ⟨_, _, rfl⟩ | (simp [swV] at hs; done)
    obtain ⟨y, py, rfl⟩ := htg
    cases t with
    | tp ts => simp [isTg] at h1
    | up ts => simp [isTg] at h1
    | nm i =>
      simp only [isTg, Bool.and_eq_true, decide_eq_true_eq, Bool.not_eq_true', decide_eq_false_iff_not] at h1
      have off : y_.off i := hX.off h1.2
      cases e with
      | comp own t' it e =>
        obtain ⟨te, hp, hq⟩ := okLc C hX hk (.comp own t' it e) rfl h2 (py := py) (pos := pos) h1.1.1 hs
        exact ps_imp hp (setN_read off hq fun env m d m' e => by simp only [evE] at e; exact rComp_lst e)
      | compIf own t' it c e =>
        obtain ⟨te, hp, hq⟩ := okLc C hX hk (.compIf own t' it c e) rfl h2 (py := py) (pos := pos) h1.1.1 hs
        exact ps_imp hp (setN_read off hq fun env m d m' e => by simp only [evE] at e; exact rCompI_lst e)
      | comp2 own t' it vs1 t1' b c e =>
        obtain ⟨te, hp, hq⟩ := okLc C hX hk (.comp2 own t' it vs1 t1' b c e) rfl h2 (py := py) (pos := pos) h1.1.1 hs
        exact ps_imp hp (setN_read off hq fun env m d m' e' => by simp only [evE] at e'; exact rComp2_lst e')
      | compR own t' v e =>
        obtain ⟨te, hp, hq⟩ := okLc C hX hk (.compR own t' v e) rfl h2 (py := py) (pos := pos) h1.1.1 hs
        exact ps_imp hp (setN_read off hq fun env m d m' e' => by simp only [evE] at e'; exact rCompR_lst e')
      | compIR own t' v c e =>
        obtain ⟨te, hp, hq⟩ := okLc C hX hk (.compIR own t' v c e) rfl h2 (py := py) (pos := pos) h1.1.1 hs
        exact ps_imp hp (setN_read off hq fun env m d m' e' => by simp only [evE] at e'; exact rCompIR_lst e')
      | box a =>
        simp only [isE, Bool.and_eq_true] at h2
        have ha : isCp a = true := isCp_of h2.1 h2.2
        obtain ⟨te, hp, hq⟩ := okLc C hX hk a ha h2.2 (py := py) (pos := pos) h1.1.1 hs
        refine ps_imp hp fun E σ H h => setB_read off hq E σ H ?_
        simp only [evE] at h
        exact h
      | _ => exact absurd h2 (by simp [isE, sortP, minP])
  · have hs : swV S tg x = false := by simpa using hs
    exact s_asg (okE e C hX x h2) (okTg hX t tg h1) (by rw [← hs]; exact sw_eq hX hk (is_pl h2) tg _) (stores_none h3 h1) (by rw [isTg_each h1]; rfl)
theorem nmO_ok {X : Cx} {S : Sx_} {y_ : Yc} (hX : XOk X S y_) {nm : Option Str} {i : Option Nat} (h : nmOB S nm i = true) : NmO X nm i := by
  unfold nmOB at h
  split at h
  · exact .none
  · simp only [Bool.and_eq_true, decide_eq_true_eq] at h
    refine .some (by rw [hX.n]; exact h.1) ?_
    unfold Env.kindOf
    rw [hX.sc]; exact h.2
  · cases h
theorem yes_ok {X : Cx} {n : Nat} {B : Tb} {F : Fn} (C : Cok X n B F) {c : Str} {yes no : List Str} {Ca : Addr} (hc : qin B c = true) (hm : X.mg c = some (.ref Ca)) (h : yesB B c yes no = true) :
    ∀ Z ph H cls d x, RepX X.K Z ph H cls d x → (x.nm ∈ yes → PySem.W.exmOne X.K cls (.ref Ca) = some true) ∧ (x.nm ∈ no → PySem.W.exmOne X.K cls (.ref Ca) = some false) := by
  intro Z ph H cls d x ⟨C1, dx, fvs, e1, e2, e3, e4, e5⟩
  subst e1
  simp only [yesB, Bool.and_eq_true, List.all_eq_true, Bool.or_eq_true, Bool.not_eq_true', decide_eq_true_eq, decide_eq_false_iff_not] at h
  obtain ⟨⟨h1, h2⟩, h3⟩ := h
  have hc : c ∈ B.qs := of_decide_eq_true hc
  refine ⟨fun hy => ?_, fun hy => ?_⟩
  · obtain ⟨t, t1, t2⟩ := xin_ok (h1 _ hy)
    have := C.xm t t1 c hc C1 Ca (by rw [t2]; exact e3) hm
    rw [this]
    rcases (h3 t t1).1 with q | q
    · rw [t2] at q; exact absurd hy q
    · simp [q]
  · obtain ⟨t, t1, t2⟩ := xin_ok (h2 _ hy)
    have := C.xm t t1 c hc C1 Ca (by rw [t2]; exact e3) hm
    rw [this]
    rcases (h3 t t1).2 with q | q
    · rw [t2] at q; exact absurd hy q
    · simp [q]
mutual
theorem okS : ∀ (s : S) {X : Cx} {S_ : Sx_} {y_ : Yc} (C : Cok X n B F) (hX : XOk X S_ y_) (hk : S_.sc.kind = .function) (hp : FrO X) (st : Stmt), isS B S_ s st = true → PS X st (tEvS X.K y_ fun env m => evS F (gv B.G) B.xf s y_.cx env m)
  | .asg t e, X, S_, y_, C, hX, hk, hp, st, h => by
    simp only [isS] at h
    split at h
    · simp only [Bool.and_eq_true, Bool.or_eq_true, Bool.not_eq_true'] at h
      obtain ⟨h1, h2 | h2⟩ := h
      · exact okAsg C hX hk t e h2.1.1 h1 h2.1.2 h2.2
      · cases e <;> first | exact okPar C hX hk t _ h2.2 h1 | exact absurd h2.1 (by simp [isTupT])
    · cases h
  | .setix o i e, X, S_, y_, C, hX, hk, hp, st, h => by
    simp only [isS] at h
    split at h
    · simp only [Bool.and_eq_true] at h
      simp only [evS]
      have hpl := is_pl h.1.2
      refine s_setix hX.un (okE e C hX _ h.2) (okE o C hX _ h.1.1) (okE i C hX _ h.1.2) (by rename_i xi _ _ _; cases xi <;> first | (intro _; rfl) | cases hpl) ?_
      have hq := is_pl h.2
      simp only [swapsWithSole]
      rw [sw_eq hX hk hq]
      unfold swV
      split <;> rfl
    · cases h
  | .aug i op e, X, S_, y_, C, hX, hk, hp, st, h => by
    simp only [isS] at h
    split at h
    · simp only [Bool.and_eq_true, decide_eq_true_eq, Bool.not_eq_true', decide_eq_false_iff_not] at h
      obtain ⟨⟨⟨⟨h0, h1⟩, h2⟩, h3⟩, h4⟩ := h
      obtain ⟨g1, g2⟩ := locB_ok hX h2
      simp only [evS]
      exact s_aug (hX.off h3) h0 hX.nd (by rw [hX.n]; exact h1) g1 g2 (okE e C hX _ h4)
    · cases h
  | .ex e, X, S_, y_, C, hX, hk, hp, st, h => by
    simp only [isS] at h
    split at h
    · simp only [Bool.and_eq_true, Bool.not_eq_true'] at h
      simp only [evS]
      exact s_ex (okE e C hX _ h.1.1) (sw_none (is_pl h.1.1) h.1.2 h.2 _)
    · cases h
  | .ife c a b, X, S_, y_, C, hX, hk, hp, st, h => by
    simp only [isS] at h
    split at h
    · simp only [Bool.and_eq_true] at h
      simp only [evS]
      exact s_if (okT c C hX _ h.1.1) (okB a C hX hk hp _ h.1.2) (okB b C hX hk hp _ h.2)
    · cases h
  | .for_ t it b, X, S_, y_, C, hX, hk, hp, st, h => by
    simp only [isS] at h
    split at h
    · simp only [Bool.and_eq_true] at h
      simp only [evS]
      have hI := okI it C hX _ _ h.1.2
      exact s_for hp.ps (hX.calm h.1.1.1) hI.1 (okTg hX t _ h.1.1.2) (okB b C hX hk hp _ h.2) hI.2
    · cases h
  | .forR t v b, X, S_, y_, C, hX, hk, hp, st, h => by
    simp only [isS] at h
    split at h
    · simp only [Bool.and_eq_true] at h
      simp only [evS]
      exact s_forR hp.ps (hX.calm h.1.1.1) (okE v C hX _ h.1.2) (okTg hX t _ h.1.1.2) (okB b C hX hk hp _ h.2) (fun v => pl_fold (is_pl h.1.2) _ v)
    · cases h
  | .while_ c b, X, S_, y_, C, hX, hk, hp, st, h => by
    simp only [isS] at h
    split at h
    · simp only [Bool.and_eq_true] at h
      simp only [evS]
      exact s_while hp.ps (okT c C hX _ h.1) (okB b C hX hk hp _ h.2)
    · cases h
  | .ret e, X, S_, y_, C, hX, hk, hp, st, h => by
    simp only [isS] at h
    split at h
    · simp only [evS]
      exact s_ret (okE e C hX _ h)
    · cases h
  | .brk, X, S_, y_, C, hX, hk, hp, st, h => by
    simp only [isS] at h
    split at h
    · simp only [evS]
      exact s_brk
    · cases h
  | .cont, X, S_, y_, C, hX, hk, hp, st, h => by
    simp only [isS] at h
    split at h
    · simp only [evS]
      exact s_cont
    · cases h
  | .dead, X, S_, y_, C, hX, hk, hp, st, h => ⟨fun pins s σ H D I ⟨Z, ph, env, m, re, wd, q⟩ => by simp only [evS] at q; exact q.elim⟩
  | .pass, X, S_, y_, C, hX, hk, hp, st, h => by
    simp only [isS] at h
    split at h
    · simp only [evS]
      exact s_pass
    · cases h
  | .retN, X, S_, y_, C, hX, hk, hp, st, h => by
    simp only [isS] at h
    split at h
    · simp only [evS]
      exact s_retN
    · cases h
  | .setat o c f e, X, S_, y_, C, hX, hk, hp, st, h => by
    simp only [isS] at h
    split at h
    · simp only [Bool.and_eq_true, decide_eq_true_eq] at h
      obtain ⟨⟨⟨h0, h1⟩, h2⟩, h3⟩ := h
      subst h0
      obtain ⟨C', c1, c2⟩ := atB_ok C h1
      simp only [evS]
      refine s_setat c1 c2 (okE o C hX _ h2) (okE e C hX _ h3) ?_
      rw [sw_eq hX hk (is_pl h3)]
      unfold swV
      split <;> rfl
    · cases h
  | .augat o c f op e, X, S_, y_, C, hX, hk, hp, st, h => by
    simp only [isS] at h
    split at h
    · simp only [Bool.and_eq_true, decide_eq_true_eq] at h
      obtain ⟨⟨⟨⟨h0', h0⟩, h1⟩, h2⟩, h3⟩ := h
      subst h0
      obtain ⟨C', c1, c2⟩ := atB_ok C h1
      simp only [evS]
      exact s_augat h0' c1 c2 (okE o C hX _ h2) (okE e C hX _ h3)
    · cases h
  | .star i j e, X, S_, y_, C, hX, hk, hp, st, h => by
    simp only [isS] at h
    split at h
    · simp only [Bool.and_eq_true, decide_eq_true_eq, Bool.not_eq_true', decide_eq_false_iff_not] at h
      obtain ⟨⟨⟨⟨⟨⟨⟨⟨h0, h1⟩, h2⟩, h3⟩, h4⟩, h5⟩, h6⟩, h7⟩, h8⟩ := h
      obtain ⟨g1, g2⟩ := locB_ok hX h4
      obtain ⟨g3, g4⟩ := locB_ok hX h7
      simp only [evS]
      refine s_star (hX.calm h0) (hX.off h5) (hX.off h8) (okE e C hX _ h1) (pg_name (i := i) hX.nd (by rw [hX.n]; exact h3) g1 g2) (pg_name (i := j) hX.nd (by rw [hX.n]; exact h6) g3 g4) ?_ ?_
      · rw [sw_eq' hX hk (is_pl h1)]
        unfold swV
        split <;> rfl
      · rename_i z _
        cases z <;> first | rfl | (cases h2; done)
    · cases h
  | .raise_ c as, X, S_, y_, C, hX, hk, hp, st, h => by
    simp only [isS] at h
    split at h
    · simp only [Bool.and_eq_true, decide_eq_true_eq] at h
      obtain ⟨⟨⟨⟨h0, h1⟩, h2⟩, h3⟩, h4⟩ := h
      subst h1
      obtain ⟨t, t1, t2, t3⟩ := xf_ok h3
      obtain ⟨C', c1⟩ := C.xc t t1
      obtain ⟨g1, g2⟩ := glB_ok hX h2
      subst t2
      have hpls := is_pls h4
      simp only [evS, t3]
      exact s_raise (hX.calm h0) hX.tk c1 (C.room (hX.calm h0)).room g1 (okA as C hX _ h4) g2 (pl_star (hpls _ List.mem_cons_self) _ _) (any_star _ _ _ fun y hy => hpls y (List.mem_cons_of_mem _ hy))
    · cases h
  | .try_ b hs els, X, S_, y_, C, hX, hk, hp, st, h => by
    simp only [isS] at h
    split at h
    · simp only [Bool.and_eq_true, decide_eq_true_eq] at h
      obtain ⟨⟨⟨⟨h0, h1⟩, h2⟩, h3⟩, h4⟩ := h
      have hcx := hX.cx0 h1
      obtain ⟨l, hl1, hl2⟩ := okH hs C hX hk hp hcx _ h4
      simp only [evS]
      refine s_try hX.nd hp.st hp.fr hX.tk hcx (okB els C hX hk hp _ h3) (fun W pn xe tk ps => ?_) hl1 hl2
      have := okB b (C.tr pn xe) (hX.tr pn xe W tk) hk (hp.tr pn ps) _ h2
      rw [hcx]
      exact this
    · cases h
theorem okB : ∀ (s : Ss) {X : Cx} {S_ : Sx_} {y_ : Yc} (C : Cok X n B F) (hX : XOk X S_ y_) (hk : S_.sc.kind = .function) (hp : FrO X) (st : List Stmt), isB B S_ s st = true → PSs X st (tEvS X.K y_ fun env m => evB F (gv B.G) B.xf s y_.cx env m)
  | .nil, X, S_, y_, C, hX, hk, hp, st, h => by
    simp only [isB] at h
    split at h
    · simp only [evB]
      exact ss_nil
    · cases h
  | .cons s ss, X, S_, y_, C, hX, hk, hp, st, h => by
    simp only [isB] at h
    split at h
    · simp only [Bool.and_eq_true] at h
      simp only [evB]
      exact ss_cons (okS s C hX hk hp _ h.1) (okB ss C hX hk hp _ h.2)
    · cases h
theorem okH : ∀ (hs : Hs) {X : Cx} {S_ : Sx_} {y_ : Yc} (C : Cok X n B F) (hX : XOk X S_ y_) (hk : S_.sc.kind = .function) (hp : FrO X) (hcx : y_.cx = none) (hds : List ExceptHandler), isH B S_ hs hds = true → ∃ l, HdG X hds l ∧ HwR X.K y_ (fun x env m => evH F (gv B.G) B.xf hs x y_.cx env m) l
  | .nil, X, S_, y_, C, hX, hk, hp, hcx, hds, h => by
    simp only [isH] at h
    split at h
    · refine ⟨[], .nil, ?_⟩
      simp only [evH]
      exact hw_nil
    · cases h
  | .cons c yes no i b hs, X, S_, y_, C, hX, hk, hp, hcx, hds, h => by
    simp only [isH] at h
    split at h
    · rename_i x np nm b0 su pos' r
      simp only [Bool.and_eq_true, decide_eq_true_eq] at h
      obtain ⟨⟨⟨⟨⟨⟨h0, h1⟩, h2⟩, h3⟩, h4⟩, h5⟩, h6⟩ := h
      subst h0
      obtain ⟨l, l1, l2⟩ := okH hs C hX hk hp hcx r h6
      obtain ⟨C', gm⟩ := C.xq _ (of_decide_eq_true h2)
      obtain ⟨g1, g2⟩ := glB_ok hX h1
      refine ⟨(.ref C', i, tSu X.K (fun x => x.nm ∈ yes) i fun x env m => evB F (gv B.G) B.xf b (cxO i x) env m) :: l, .cons ⟨g1, g2, .inl gm⟩ (nmO_ok hX h4) (fun a oe cls d pn hz hf => ?_) l1, ?_⟩
      · refine ⟨fun pins s σ H D I ⟨xv, hy, w⟩ => ?_⟩
        exact (okB b (C.suite a _) (hX.suite hz hf hy) hk (hp.suite a _) _ h5).run pins s σ H D I w
      · simp only [evH]
        exact hw_cons hcx (yes_ok C h2 gm h3) l2
    · cases h
end
end
end Pv

namespace Pv
open PySem L2
variable [TabT]

/-! ## defs -/
theorem start_rep {K : PySem.W.Frag} {y : Yc} (hcx : y.cx = none) {Z : Addr → Prop} {ph : List Addr} {H : Hp} {vs : List V} {ds : List D} (N : List Str) (r : RepVs K Z ph H vs ds) : RepE K y Z ph H (L2.start N vs) (startE N.length ds) := by
  unfold L2.start startE
  rw [r.len]
  refine ⟨by simp [r.len], fun i d h => ?_, fun i x e => (by rw [hcx] at e; cases e)⟩
  by_cases hi : i < ds.length
  · rw [List.getElem?_append_left (by simpa using hi), List.getElem?_map] at h
    obtain ⟨d', h1, h2⟩ := Option.map_eq_some_iff.mp h
    cases h2
    obtain ⟨v, h3, r3⟩ := r.get h1
    exact ⟨v, by rw [List.getElem?_append_left (by rw [List.length_map, r.len]; exact hi), List.getElem?_map, h3]; rfl, r3⟩
  · rw [List.getElem?_append_right (by simpa using hi)] at h
    have := List.mem_of_getElem? h
    simp at this
/-- what is known of the defs, at a level -/
structure Lev (P : Program) (w : World) (K : PySem.W.Frag) (mg : Str → Option Value) (base : Heap) (n : Nat) (B : Tb) (F : Fn) : Prop where
  fn : ∀ (i : Nat) (fd : FnD), B.T[i]? = some fd → ∃ f fdat, FnK P w K mg base n f fdat fd.ps (spF K fd.ps.length (F i)) ∧ BindsD K fdat fd ∧ PySem.W.keepIn K (.ref f) = true ∧ FnF K mg fd f ∧ (∀ ds m, F i ds m ≠ .no → ds.length = fd.ps.length)
structure Glo (w : World) (K : PySem.W.Frag) (mg : Str → Option Value) (B : Tb) : Prop where
  bl : ∀ x ∈ bnames, mg x = none
  gl : ∀ (i : Nat) (x : Str) (d : D), B.G[i]? = some (x, d) → ∃ v u, mg x = some u ∧ RelV v u ∧ ∀ Z ph H, RepV K Z ph H v d
  xm : ∀ t ∈ B.X, ∀ c ∈ B.qs, ∀ C C', PySem.W.nsIn K mainGlobals t.nm = some (some (.ref C)) → mg c = some (.ref C') → PySem.W.exmOne K (.ref C) (.ref C') = some (decide (c ∈ t.sup))
  xq : ∀ c ∈ B.qs, ∃ C', mg c = some (.ref C')
  cl : ∀ k ∈ B.C, ∃ C, ClK K k.nm C ∧ ∀ f ∈ k.at_, NoAttr K C f
  gd : ∀ p ∈ B.D, ∃ a, mg p.1 = some (.ref a) ∧ GdK K w a p.2
/-- the base of an exception's class -/
inductive BasK (K : PySem.W.Frag) (mg : Str → Option Value) (C : Addr) : Str → Prop where
  | own {b : Str} {C0 : Addr} (T : OexC K C) (hm : mg b = some (.ref C0)) (hd : (b == ("__debug__" : Str)) = false) (rd : PySem.W.readsIn K C0 (.type "type") = true) (ga : PySem.W.specialIn K (.ref C0) "__getattribute__" = some (some (.builtin "type.__getattribute__")))
      (at_ : PySem.W.findCls K (.ref C0) (.type "type") "__init__" = some (.val (.builtin "ValueError.__init__"))) : BasK K mg C b
  | exc (T : OexE K C) (hm : mg "Exception" = none) (at_ : PySem.W.findCls K (.type "Exception") (.type "type") "__init__" = some (.val (.builtin "Exception.__init__"))) : BasK K mg C "Exception"
theorem BasK.k {K : PySem.W.Frag} {mg : Str → Option Value} {C : Addr} {b : Str} (h : BasK K mg C b) : OexK K C := by
  cases h with
  | own T _ _ _ _ _ => exact .inl T
  | exc T _ _ => exact .inr T
/-- an exception's class, as it stands behind the top -/
structure XTab (K : PySem.W.Frag) (mg : Str → Option Value) (x : XC) (C : Addr) : Prop where
  at_ : PySem.W.nsIn K mainGlobals x.nm = some (some (.ref C))
  gm : mg x.nm = some (.ref C)
  bs : BasK K mg C x.base
  fl : x.fs ≠ [] ∧ x.fs.length ≤ 8
  xf : XfC K C
  ic : IsC K C
  no : ∀ f ∈ x.fs, PySem.W.findIn K (.ref C) f = some none
  ini : ∃ (fI : Addr) (fd : FuncData) (st : Stmt) (qual : Str) (N ps : List Str), PySem.W.findIn K (.ref C) "__init__" = some (some (.ref fI)) ∧ PySem.W.typeIn K (.ref fI) = some (.type "function") ∧ Fun K "__init__" qual st fI fd ∧ FnScope N ps (defScope st) ∧ ps.length = x.fs.length + 1 ∧
    initB N (defScope st) x.base x.fs (defBody st) = true ∧ ∀ us : List Value, us.length = ps.length → bindArgs fd ⟨us, []⟩ = pure (ps.zip us)
theorem initB_gl {N : List Str} {sc : Scope} {b : Str} {fs : List Str} {sts : List Stmt} (h : initB N sc b fs sts = true) : sc.names.lookup b = some .globalImplicit := by
  unfold initB at h
  split at h
  · rw [Bool.and_eq_true, Bool.and_eq_true, Bool.and_eq_true, Bool.and_eq_true, Bool.and_eq_true, Bool.and_eq_true, Bool.and_eq_true] at h
    simp only [decide_eq_true_eq] at h
    obtain ⟨⟨⟨⟨⟨⟨⟨h0, h1⟩, h2⟩, h3⟩, h4⟩, h5⟩, h6⟩, h7⟩ := h
    rw [← h1]; exact h6
  · cases h
theorem xck_of {P : Program} {w : World} {K : PySem.W.Frag} {mg : Str → Option Value} {base : Heap} {x : XC} {C : Addr} (T : XTab K mg x C) : XcK P w K mg base x C := by
  refine ⟨T.at_, T.gm, T.bs.k, T.fl, T.xf, T.ic, T.no, ?_⟩
  obtain ⟨fI, fd, st, qual, N, ps, h1, h2, Fu, Sc, hl, ib, bi⟩ := T.ini
  refine ⟨fI, fd, ps, h1, h2, ?_, .all bi⟩
  obtain ⟨oc, od, kV, doc, pm, an, cdv, ct, osl, rfl, lk, hcd⟩ := Fu.ex
  refine (fn_of (k := 1) lk hcd Sc (fun vs H Q E ⟨a, ws, ev, hw, _⟩ => by rw [ev, hl, ← hw]; rfl) fun A outer s H vs Q E hr hsp => ?_)
  have hgl : Gl (cxOf (CX P w) P w K mg base N qual (defScope st) fI cdv A outer s H E) x.base := initB_gl ib
  have hB : BaseI (cxOf (CX P w) P w K mg base N qual (defScope st) fI cdv A outer s H E) C x.base := by
    have hb := T.bs
    revert hgl
    generalize x.base = b at hb
    intro hgl
    cases hb with
    | own T1 hm hd rd ga at_ => exact .own T1 hgl hm hd rd ga at_
    | exc T1 hm at_ => exact .exc T1 hgl hm at_
  refine ⟨_, init_body hB ib T.no, ?_⟩
  obtain ⟨a, ws, ev, hw, h8, hne, ha, q⟩ := hsp
  subst ev
  refine ⟨a, ws, ?_, hw, h8, hne, ha, fun j u hj => ?_, fun dx hd ne => q dx _ hd ne rfl⟩
  · unfold L2.start; simp
  · unfold L2.start
    have hlt : j < ws.length := by
      rcases Nat.lt_or_ge j ws.length with h | h
      · exact h
      · rw [List.getElem?_eq_none h] at hj; cases hj
    rw [List.getElem?_append_left (by simp; omega), List.getElem?_map, Nat.add_comm 1 j, List.getElem?_cons_succ, hj]
    rfl
section
variable {P : Program} {w : World} {K : PySem.W.Frag} {mg : Str → Option Value} {base : Heap} {n : Nat} {B : Tb} {F : Fn}
theorem runBody_len {fd : FnD} {ds : List D} {m : M} {G : List D} {Xf : Str → Option (List Str)} (h : runBody F G Xf fd ds m ≠ .no) : ds.length = fd.ps.length := by
  unfold runBody at h
  split at h
  · assumption
  · exact absurd rfl h
def s0 (fd : FnD) (st : Stmt) : Sx_ := ⟨fd.ns, defScope st, fun _ => true, true, none, [], fd.lm⟩
/-- the name of the lambda that a def makes -/
def lamQ (qual : Str) : Str := (qual ++ ".<locals>.") ++ "<lambda>"
/-- a def that makes a lambda: its code object is among those that are known -/
def LamF (fdat : FuncData) (qual : Str) : Prop := ∃ p ∈ TabT.cs, fdat.code = .ref p.1 ∧ p.2.2 = lamQ qual
/-- the tables are told apart -/
def OneP : Prop := ∀ p ∈ TabT.cs, ∀ q ∈ TabT.T, q.1 = p.2.1 → q.2 = p.2.2
theorem fn_ok (tb : ∀ p ∈ TabT.cs, LamX.TabB base mg p.1 p.2.1) (op : OneP) (L : Lev P w K mg base n B F) (Gk : Glo w K mg B) (Xk : ∀ t ∈ B.X, ∃ C, XTab K mg t C) {fd : FnD} {st : Stmt} {qual : Str} {f : Addr} {fdat : FuncData} (Fu : FunV K fd.own qual st f fdat) (Sc : FnScope fd.ns fd.ps (defScope st)) (is : isB B (s0 fd st) fd.body (defBody st) = true) (lf : fd.lm = true → LamF fdat qual) :
    FnK P w K mg base (n + 1) f fdat fd.ps (spF K fd.ps.length (runBody F (gv B.G) B.xf fd)) := by
  refine k_fn Fu Sc (fun vs H Q E h => h.1) (fun cdv A outer s H vs Q E hcd e0 hr h => ?_)
  obtain ⟨hl, Z, ph, m, ds, r, wd, q⟩ := h
  refine ⟨_, okB fd.body (n := n) (F := F) (y_ := ⟨fun cls d _ H => E cls d H, none, none⟩) ⟨L.fn, fun _ => hr, Gk.bl, Gk.gl, fun t ht => let ⟨C, c⟩ := Xk t ht; ⟨C, xck_of c⟩, Gk.xm, Gk.xq, Gk.cl, Gk.gd⟩ ⟨rfl, rfl, rfl, fun _ => rfl, Sc.nd, hr.units, takes_of rfl rfl rfl rfl, fun i x e => (by cases e), fun a cls d e => (by cases e), fun e => by
      obtain ⟨p, hp, h1, h2⟩ := lf e
      refine ⟨p.1, p.2.1, hcd.symm.trans h1, tb p hp, ?_, fun q hq eq => ?_⟩
      · show (p.2.1, lamQ qual) ∈ _
        rw [← h2]
        exact List.mem_map.mpr ⟨p, hp, rfl⟩
      · show q.2 = lamQ qual
        rw [← h2]
        exact op p hp q hq eq⟩ Sc.kind ⟨PassesOwn.leaving, rfl, rfl⟩ (defBody st) is, ?_⟩
  have hds : ds.length = fd.ps.length := by rw [← r.len]; exact hl
  refine ⟨Z, ph, startE fd.ns.length ds, m, start_rep rfl fd.ns r, wd, ?_⟩
  unfold runBody at q
  rw [if_pos hds] at q
  show FinS K _ Z ph H (evB F (gv B.G) B.xf fd.body none (startE fd.ns.length ds) m) _
  cases e : evB F (gv B.G) B.xf fd.body none (startE fd.ns.length ds) m with
  | none => rw [e] at q; exact q.elim
  | some rr =>
    obtain ⟨fl, env', m1⟩ := rr
    rw [e] at q
    intro ph' H' σ' s w r
    cases fl with
    | nx => exact q ph' H' .non s w .non
    | rt d => exact fun v rv => q ph' H' v s w rv
    | bk => exact q.elim
    | ct => exact q.elim
    | xc x => exact fun cls dd rx => q ph' H' cls dd s w rx
/-- the defs of the table, as they stand behind the top -/
structure Tab (K : PySem.W.Frag) (mg : Str → Option Value) (B : Tb) : Prop where
  fn : ∀ (i : Nat) (fd : FnD), B.T[i]? = some fd → ∃ f fdat st qual, FunV K fd.own qual st f fdat ∧ FnScope fd.ns fd.ps (defScope st) ∧ isB B (s0 fd st) fd.body (defBody st) = true ∧ BindsD K fdat fd ∧ FnF K mg fd f ∧ (fd.df.isEmpty = true → ∀ us : List Value, us.length = fd.ps.length → bindArgs fdat ⟨us, []⟩ = pure (fd.ps.zip us)) ∧ (fd.lm = true → LamF fdat qual)
  op : OneP
  xc : ∀ t ∈ B.X, ∃ C, XTab K mg t C
theorem run_len {T : List FnD} {G : List D} {Xf : Str → Option (List Str)} : ∀ {n i : Nat} {fd : FnD} {ds : List D} {m : M}, T[i]? = some fd → run T G Xf n i ds m ≠ .no → ds.length = fd.ps.length
  | 0, _, _, _, _, _, h => by simp [run] at h
  | n + 1, i, fd, ds, m, hi, h => by
    simp only [run, hi] at h
    exact runBody_len h
theorem lev (tb : ∀ p ∈ TabT.cs, LamX.TabB base mg p.1 p.2.1) (Tb : Tab K mg B) (Gk : Glo w K mg B) : ∀ n, Lev P w K mg base n B (run B.T (gv B.G) B.xf n)
  | 0 => ⟨fun i fd h => by
      obtain ⟨f, fdat, st, qual, Fu, Sc, is, bi, mgf, bi0, lf⟩ := Tb.fn i fd h
      refine ⟨f, fdat, ⟨fun vs H Q E h => h.1, fun A outer s H args us vs Q E _ _ _ _ h => ?_⟩, bi, Fu.kp, mgf, fun ds m h' => run_len h h'⟩
      obtain ⟨_, Z, ph, m, ds, _, _, q⟩ := h
      simp only [run] at q⟩
  | n + 1 => ⟨fun i fd h => by
      obtain ⟨f, fdat, st, qual, Fu, Sc, is, bi, mgf, bi0, lf⟩ := Tb.fn i fd h
      have e : run B.T (gv B.G) B.xf (n + 1) i = runBody (run B.T (gv B.G) B.xf n) (gv B.G) B.xf fd := by funext ds m; simp only [run, h]
      rw [e]
      exact ⟨f, fdat, fn_ok tb Tb.op (lev tb Tb Gk n) Gk Tb.xc Fu Sc is lf, bi, Fu.kp, mgf, fun ds m h' => runBody_len h'⟩⟩
end
/-- what law(script) promises -/
def spLaw (K : PySem.W.Frag) : Sp := fun vs H Q _ => ∃ (a : Addr) (ns : List Int), vs = [.ref a] ∧ FrzL K H a (ns.map V.int) ∧ LamX.Tabs TabT.T H ∧ ns.length ≤ 63 ∧ ∀ H', Q (.bl true) H'
theorem law_sp {K : PySem.W.Frag} {f : List D → M → O1} (h : ∀ ns : List Int, ns.length ≤ 63 → ∃ m', f [.frz (ns.map .int)] [] = .ok (.bl true) m') (vs : List V) (H : Hp) (Q : VK) (E : XK) (q : spLaw K vs H Q E) : spF K 1 f vs H Q E := by
  obtain ⟨a, ns, rfl, hf, ht, hl, q⟩ := q
  obtain ⟨m', e⟩ := h ns hl
  have r : RepVs K (fun _ => False) [] H (ns.map V.int) (ns.map D.int) := by
    clear hl e q hf
    induction ns with
    | nil => exact .nil
    | cons n ns ih => exact .cons (.int n) ih
  refine ⟨rfl, fun _ => False, [], [], [.frz (ns.map .int)], .cons (.frz hf r) .nil, ?_, ?_⟩
  · exact ⟨rfl, List.nodup_nil, fun l xs h => (by simp at h), fun _ h => h.elim, fun l nm fs h => (by simp at h), fun l kvs h => (by simp at h), ht⟩
  · rw [e]
    exact fun ph' H' u s w r => by cases r; exact q H'
theorem only_frz {K : PySem.W.Frag} {H : Hp} {a : Addr} {xs : List V} (ho : Only H) (hs : SqL K H a xs) : FrzL K H a xs := by
  rcases hs with (hs | ⟨o, hs⟩) | hs
  · rcases ho a with h | ⟨o, xs, h⟩
    · rw [hs] at h; cases h
    · rw [hs] at h; cases h
  · exact .inl ⟨o, hs⟩
  · exact .inr hs
/-! the script that may be changed is held as it is -/
theorem objOk_frz {P : Program} {w : World} {H : Hp} {h : Heap} {a b : Addr} {o : Obj} {xs : List V} {u : HO} (ha : H a = some (.lst xs)) (x : ObjOk P w H h b u) : ObjOk P w (upd H a (.frz o (.lst xs))) h b u :=
  x.stay (fun _ _ _ e => e) (fun c e => by rw [upd_ne (ne_of e ha (by intro z; cases z))]; exact e) fun c ys e => by rw [upd_ne (ne_of e ha (by intro z; cases z))]; exact e
theorem hok_frz {P : Program} {w : World} {H : Hp} {h : Heap} {a : Addr} {o : Obj} {xs : List V} (hok : HOk P w H h) (ha : H a = some (.lst xs)) (e : h.get? a = some o) : HOk P w (upd H a (.frz o (.lst xs))) h := by
  intro b u hb
  by_cases hba : b = a
  · subst hba
    rw [upd_same] at hb
    cases hb
    exact ⟨e, objOk_frz ha (hok b _ ha)⟩
  · rw [upd_ne hba] at hb
    exact objOk_frz ha (hok b _ hb)
theorem un_frz {fs ex : List Addr} {H H1 : Hp} {h h1 : Heap} {a : Addr} {o : Obj} {xs : List V} (ha : H a = some (.lst xs)) (u : Un fs ex (upd H a (.frz o (.lst xs))) H1 h h1) : Un fs ex H H1 h h1 := by
  have n : ∀ {b}, H b = none → upd H a (.frz o (.lst xs)) b = none := fun {b} e => by rw [upd_ne (fun z => by rw [z, ha] at e; cases e)]; exact e
  have k : ∀ {b u}, H b = some u → u ≠ .lst xs → upd H a (.frz o (.lst xs)) b = some u := fun {b u} e z => by rw [upd_ne (ne_of e ha z)]; exact e
  exact ⟨fun b o' e z => u.keep b o' e (n z), fun b o' e z => u.slot b o' e (n z), fun b o' e z => u.free b o' e (n z), u.there, fun b ys e => u.tups b ys (k e (by intro z; cases z)), fun b o' u' e => u.frzs b o' u' (k e (by intro z; cases z)), fun b ps e => u.tbls b ps (k e (by intro z; cases z))⟩
/-- .. at a head that tells tables too -/
def spLawT (K : PySem.W.Frag) : Sp := fun vs H Q E => ∃ (a : Addr) (ns : List Int), vs = [.ref a] ∧ SqL K H a (ns.map V.int) ∧ LamX.Tabs TabT.T H ∧ ns.length ≤ 63 ∧ (∀ H', Q (.bl true) H') ∧ ∀ cls d H', E cls d H' → False
theorem fnok_frz {P : Program} {w : World} {K : PySem.W.Frag} {mg : Str → Option Value} {base : Heap} {k : Nat} {f : Addr} {fd : FuncData} {x : Str} (F : FnOk P w K mg base (CX P w) k f fd [x] (spLaw K)) : FnOk P w K mg base (CX P w) k f fd [x] (spLawT K) := by
  refine ⟨fun vs H Q E ⟨a, ns, e, _⟩ => by rw [e]; rfl, fun A outer s H args us vs Q E hr e0 hb hv hq => ?_⟩
  obtain ⟨a, ns, rfl, hs, ht, hl, q, qe⟩ := hq
  by_cases hf : FrzL K H a (ns.map V.int)
  · exact F.run A outer s H args us _ Q E hr e0 hb hv ⟨a, ns, rfl, hf, ht, hl, q⟩
  · have ha : H a = some (.lst (ns.map V.int)) := by
      rcases hs with (hs | ⟨o, hs⟩) | hs
      · exact hs
      · exact absurd (.inl ⟨o, hs⟩) hf
      · exact absurd (.inr hs) hf
    obtain ⟨_, its, n, _, hg⟩ := e0.hok a _ ha
    have nt : ∀ p q, H p = some q → q ≠ .lst (ns.map V.int) → upd H a (.frz { cls := .type "list", data := .seq its.toArray n } (.lst (ns.map V.int))) p = some q := fun p q e z => by rw [upd_ne (ne_of e ha z)]; exact e
    have e1 : Env0 P w K mg base A outer s (upd H a (.frz { cls := .type "list", data := .seq its.toArray n } (.lst (ns.map V.int)))) :=
      ⟨e0.frames, e0.mod, fun b o h => ⟨(e0.bs b o h).1, by rw [upd_ne (fun z => by have := (e0.bs b o h).2; rw [z, ha] at this; cases this)]; exact (e0.bs b o h).2⟩, e0.bsz, e0.funs, fun b h => by rw [upd_ne (fun z => by have := e0.frf b h; rw [z, ha] at this; cases this)]; exact e0.frf b h, hok_frz e0.hok ha hg, e0.bare⟩
    have t1 : LamX.Tabs TabT.T (upd H a (.frz { cls := .type "list", data := .seq its.toArray n } (.lst (ns.map V.int)))) := fun p hp => by
      obtain ⟨ps, h1, h2, h3⟩ := ht p hp
      exact ⟨ps, nt _ _ h1 (by intro z; cases z), h2, fun pos cv hc => let ⟨c, c1, c2⟩ := h3 pos cv hc; ⟨c, c1, nt _ _ c2 (by intro z; unfold LamX.CodeO at z; cases z)⟩⟩
    refine codeAny_mono (F.run A outer s _ args us _ Q E hr e1 hb hv ⟨a, ns, rfl, .inl ⟨_, upd_same⟩, t1, hl, q⟩) fun r s' hr' => ?_
    cases r with
    | error e =>
      obtain ⟨_, _, _, _, _, _, _, _, _, _, _, _, z⟩ := hr'
      exact (qe _ _ _ z).elim
    | ok fl =>
      cases fl with
      | ret u =>
        obtain ⟨v, H', h1, h2, h3, h4, h5, h6⟩ := hr'
        exact ⟨v, H', h1, h2, un_frz ha h3, h4, h5, h6⟩
      | next => exact hr'.elim
      | brk => exact hr'.elim
      | cont => exact hr'.elim
/-- the text's defs by places, checked at once -/
def scB (fd : FnD) (st : Stmt) : Bool := decide ((defScope st).kind = .function) && !(defScope st).isCoroutine && !(defScope st).isGenerator && decide fd.ns.Nodup && decide (fd.ns.take fd.ps.length = fd.ps) &&
  fd.ps.all (fun x => decide ((defScope st).names.lookup x = some .local) || decide ((defScope st).names.lookup x = some .cell)) && (defScope st).names.all fun y => decide (y.2 ≠ .free)
theorem scB_ok {fd : FnD} {st : Stmt} (h : scB fd st = true) : FnScope fd.ns fd.ps (defScope st) := by
  simp only [scB, Bool.and_eq_true, decide_eq_true_eq, Bool.not_eq_true', List.all_eq_true, Bool.or_eq_true] at h
  obtain ⟨⟨⟨⟨⟨⟨h1, h2⟩, h3⟩, h4⟩, h5⟩, h6⟩, h7⟩ := h
  exact ⟨h1, h2, h3, h4, h5, fun x hx => h6 x hx, fun y hy => h7 y hy⟩
theorem xf_nil {T : List FnD} {G : List (Str × D)} {C : List ClD} {Q : List Str} {L : List (Str × List (Str × D))} {c : Str} : Tb.xf ⟨T, G, [], C, Q, L⟩ c = none := rfl
theorem xf_cons {T : List FnD} {G : List (Str × D)} {C : List ClD} {Q : List Str} {L : List (Str × List (Str × D))} {t : XC} {X : List XC} {c : Str} : Tb.xf ⟨T, G, t :: X, C, Q, L⟩ c = if t.nm = c then some t.fs else Tb.xf ⟨T, G, X, C, Q, L⟩ c := by
  unfold Tb.xf
  by_cases h : t.nm = c
  · rw [if_pos h, List.find?_cons_of_pos (by simp [h])]; rfl
  · rw [if_neg h, List.find?_cons_of_neg (by simp [h])]
/-! ## what the top has written -/
def defIn (K : PySem.W.Frag) (nm own : Str) (st : Stmt) : Prop := ∃ (f : Addr) (od an : Option Addr) (sl : Array (Option Value)) (oc kV dc pm cd ct : Value), PySem.W.nsIn K mainGlobals nm = some (some (.ref f)) ∧
  K.lookup f = some ⟨oc, od, .func (PySem.W.fnOf own own (defArgs st) (defBody st) (defScope st) .none kV dc pm an cd ct), sl⟩ ∧ PySem.W.codeIn K cd own = true ∧ PySem.W.keepIn K (.ref f) = true
theorem defIn_mk {K : PySem.W.Frag} {nm own : Str} {st : Stmt} {f : Addr} {od an : Option Addr} {sl : Array (Option Value)} {oc kV dc pm cd ct : Value} (a : PySem.W.nsIn K mainGlobals nm = some (some (.ref f)))
    (l : K.lookup f = some ⟨oc, od, .func (PySem.W.fnOf own own (defArgs st) (defBody st) (defScope st) .none kV dc pm an cd ct), sl⟩) (c : PySem.W.codeIn K cd own = true) (k : PySem.W.keepIn K (.ref f) = true) : defIn K nm own st := ⟨f, od, an, sl, oc, kV, dc, pm, cd, ct, a, l, c, k⟩
/-- keyword-only defaults: the names, the values -/
def kwsI (K : PySem.W.Frag) (D : Addr) : List (Str × V) → Prop
  | [] => True
  | q :: r => (∃ u, PySem.W.nsIn K D q.1 = some (some u) ∧ RelV q.2 u) ∧ kwsI K D r
theorem kwsI_all {K : PySem.W.Frag} {D : Addr} : ∀ {l : List (Str × V)}, kwsI K D l → ∀ q ∈ l, ∃ u, PySem.W.nsIn K D q.1 = some (some u) ∧ RelV q.2 u
  | q :: r, ⟨h1, h2⟩, p, hp => by
    rcases List.mem_cons.mp hp with rfl | hp
    · exact h1
    · exact kwsI_all h2 p hp
theorem kwsI_non {K : PySem.W.Frag} {D : Addr} {x : Str} {l : List (Str × V)} (h : PySem.W.nsIn K D x = some (some .none)) (t : kwsI K D l) : kwsI K D ((x, .non) :: l) := ⟨⟨.none, h, rfl⟩, t⟩
theorem kwsI_int {K : PySem.W.Frag} {D : Addr} {x : Str} {i : Int} {tk : Tok} {l : List (Str × V)} (h : PySem.W.nsIn K D x = some (some (.int i tk))) (t : kwsI K D l) : kwsI K D ((x, .int i) :: l) := ⟨⟨.int i tk, h, tk, rfl⟩, t⟩
theorem kwsI_nil {K : PySem.W.Frag} {D : Addr} : kwsI K D [] := trivial
def defInK (K : PySem.W.Frag) (nm own : Str) (kws : List (Str × V)) (st : Stmt) : Prop := ∃ (f D : Addr) (od an : Option Addr) (sl : Array (Option Value)) (oc dc pm cd ct : Value), PySem.W.nsIn K mainGlobals nm = some (some (.ref f)) ∧
  K.lookup f = some ⟨oc, od, .func (PySem.W.fnOf own own (defArgs st) (defBody st) (defScope st) .none (.ref D) dc pm an cd ct), sl⟩ ∧ PySem.W.codeIn K cd own = true ∧ PySem.W.keepIn K (.ref f) = true ∧ kwsI K D kws
theorem defInK_mk {K : PySem.W.Frag} {nm own : Str} {st : Stmt} {kws : List (Str × V)} {f D : Addr} {od an : Option Addr} {sl : Array (Option Value)} {oc dc pm cd ct : Value} (a : PySem.W.nsIn K mainGlobals nm = some (some (.ref f)))
    (l : K.lookup f = some ⟨oc, od, .func (PySem.W.fnOf own own (defArgs st) (defBody st) (defScope st) .none (.ref D) dc pm an cd ct), sl⟩) (c : PySem.W.codeIn K cd own = true) (k : PySem.W.keepIn K (.ref f) = true) (q : kwsI K D kws) : defInK K nm own kws st := ⟨f, D, od, an, sl, oc, dc, pm, cd, ct, a, l, c, k, q⟩
def kwArgs (fd : FnD) (n : Nat) (kws : List (Str × V)) (st : Stmt) : Prop := ∀ (qual : Str) (D : Addr) (doc pm : Value) (an : Option Addr) (cdv ct : Value) (us ks : List Value), us.length = n → ks.length = kws.length →
  KwChain D ((kws.map (·.1)).zip ks) (bindArgs (PySem.W.fnOf fd.own qual (defArgs st) (defBody st) (defScope st) .none (.ref D) doc pm an cdv ct) ⟨us, []⟩) (fd.ps.zip (us ++ ks))
def mthIn (K : PySem.W.Frag) (c nm : Str) (st : Stmt) : Prop := ∃ (C f : Addr) (qual : Str) (od an : Option Addr) (sl : Array (Option Value)) (oc kV dc pm cd ct : Value), PySem.W.nsIn K mainGlobals c = some (some (.ref C)) ∧ PySem.W.findIn K (.ref C) nm = some (some (.ref f)) ∧ PySem.W.isFn K (.ref f) = true ∧
  K.lookup f = some ⟨oc, od, .func (PySem.W.fnOf nm qual (defArgs st) (defBody st) (defScope st) .none kV dc pm an cd ct), sl⟩ ∧ PySem.W.codeIn K cd qual = true ∧ PySem.W.keepIn K (.ref f) = true
theorem mthIn_mk {K : PySem.W.Frag} {c nm : Str} {st : Stmt} (qual : Str) {C f : Addr} {od an : Option Addr} {sl : Array (Option Value)} {oc kV dc pm cd ct : Value} (a : PySem.W.nsIn K mainGlobals c = some (some (.ref C))) (b : PySem.W.findIn K (.ref C) nm = some (some (.ref f))) (i : PySem.W.isFn K (.ref f) = true)
    (l : K.lookup f = some ⟨oc, od, .func (PySem.W.fnOf nm qual (defArgs st) (defBody st) (defScope st) .none kV dc pm an cd ct), sl⟩) (c' : PySem.W.codeIn K cd qual = true) (k : PySem.W.keepIn K (.ref f) = true) : mthIn K c nm st := ⟨C, f, qual, od, an, sl, oc, kV, dc, pm, cd, ct, a, b, i, l, c', k⟩
def attI (K : PySem.W.Frag) (C : Addr) : List Str → Prop
  | [] => True
  | f :: fs => PySem.W.findIn K (.ref C) f = some none ∧ attI K C fs
theorem attI_all {K : PySem.W.Frag} {C : Addr} : ∀ {fs : List Str}, attI K C fs → ∀ f ∈ fs, PySem.W.findIn K (.ref C) f = some none
  | [], _, f, h => nomatch h
  | g :: fs, ⟨h1, h2⟩, f, h => by
    rcases List.mem_cons.mp h with rfl | h
    · exact h1
    · exact attI_all h2 f h
def clsI (K : PySem.W.Frag) (k : ClD) : Prop := ∃ C, ClK K k.nm C ∧ attI K C k.at_ ∧ PySem.W.makesIn K C = true ∧ PySem.W.keepIn K (.ref C) = true
theorem clsI_mk {K : PySem.W.Frag} {k : ClD} {C : Addr} (a : PySem.W.nsIn K mainGlobals k.nm = some (some (.ref C))) (pg : PySem.W.plainGet K C Str.empty = true) (hd : PySem.W.hasDictIn K C = true) (po : PySem.W.plainOver K C = true) (sa : PySem.W.findIn K (.ref C) "__setattr__" = some (some (.builtin "object.__setattr__")))
    (mk : PySem.W.makesIn K C = true) (kc : PySem.W.keepIn K (.ref C) = true) (at_ : attI K C k.at_) : clsI K k := ⟨C, ⟨a, pg, hd, po, sa⟩, at_, mk, kc⟩
def plainArgs (fd : FnD) (st : Stmt) : Prop := ∀ (qual : Str) (kV doc pm : Value) (an : Option Addr) (cdv ct : Value) (us : List Value), us.length = fd.ps.length → bindArgs (PySem.W.fnOf fd.own qual (defArgs st) (defBody st) (defScope st) .none kV doc pm an cdv ct) ⟨us, []⟩ = pure (fd.ps.zip us)
/-- a def with keyword-only defaults -/
structure KwFn (K : PySem.W.Frag) (fd : FnD) (st : Stmt) (n : Nat) (kws : List (Str × V)) : Prop where
  cl : fd.cl = Str.empty
  ne : kws ≠ []
  ln : n + kws.length = fd.ps.length
  df : fd.df ≠ []
  rp : ∀ Z ph H, RepVs K Z ph H (kws.map (·.2)) fd.df
  ka : kwArgs fd n kws st
  di : defInK K fd.nm fd.own kws st
def fdIn (K : PySem.W.Frag) (B : Tb) (fd : FnD) (st : Stmt) : Prop := (∃ n kws, KwFn K fd st n kws) ∨ (fd.cl = Str.empty ∧ fd.df = [] ∧ plainArgs fd st ∧ defIn K fd.nm fd.own st) ∨ (fd.cl ≠ Str.empty ∧ fd.df = [] ∧ fd.own = fd.nm ∧ plainArgs fd st ∧ mthIn K fd.cl fd.nm st ∧ ∃ k ∈ B.C, k.nm = fd.cl ∧ clsI K k)
/-- an exception's class over a class of the text over ValueError, or over Exception -/
def excI (K : PySem.W.Frag) (x : XC) (st : Stmt) : Prop := ∃ C, PySem.W.nsIn K mainGlobals x.nm = some (some (.ref C)) ∧ XfC K C ∧ IsC K C ∧ attI K C x.fs ∧
  (∃ (fI : Addr) (qual : Str) (od an : Option Addr) (sl : Array (Option Value)) (oc kV dc pm cd ct : Value), PySem.W.findIn K (.ref C) "__init__" = some (some (.ref fI)) ∧ PySem.W.typeIn K (.ref fI) = some (.type "function") ∧
    K.lookup fI = some ⟨oc, od, .func (PySem.W.fnOf "__init__" qual (defArgs st) (defBody st) (defScope st) .none kV dc pm an cd ct), sl⟩ ∧ PySem.W.codeIn K cd qual = true ∧ PySem.W.keepIn K (.ref fI) = true) ∧
  ((∃ C0, OexC K C ∧ PySem.W.nsIn K mainGlobals x.base = some (some (.ref C0)) ∧ PySem.W.readsIn K C0 (.type "type") = true ∧ PySem.W.specialIn K (.ref C0) "__getattribute__" = some (some (.builtin "type.__getattribute__")) ∧ PySem.W.findCls K (.ref C0) (.type "type") "__init__" = some (.val (.builtin "ValueError.__init__"))) ∨
    (x.base = "Exception" ∧ OexE K C ∧ PySem.W.findCls K (.type "Exception") (.type "type") "__init__" = some (.val (.builtin "Exception.__init__"))))
theorem excI_own {K : PySem.W.Frag} {x : XC} {st : Stmt} (qual : Str) {C C0 fI : Addr} {nm q : Str} {N : Addr} {bs : List Value} {sn : List Str} {sub : List Value} {ab : Bool} {col : Option Bool} {dd : Option Addr} {m0 m1 m2 m3 m5 : Option Value} {od an : Option Addr} {sl : Array (Option Value)} {oc kV dc pm cd ct : Value}
    (a : PySem.W.nsIn K mainGlobals x.nm = some (some (.ref C))) (b : PySem.W.nsIn K mainGlobals x.base = some (some (.ref C0)))
    (xl : K.lookup C = some (excClassObj nm q C N bs [.ref C0, .type "ValueError", .type "Exception", .type "BaseException", .type "object"] true sn sub ab col dd m0 m1 m2 m3 m5 "ValueError.__new__"))
    (sa : PySem.W.findIn K (.ref C) "__setattr__" = some (some (.builtin "object.__setattr__"))) (ga : PySem.W.findIn K (.ref C) "__getattribute__" = some (some (.builtin "BaseException.__getattribute__"))) (gg : PySem.W.findIn K (.ref C) "__getattr__" = some none)
    (ec : PySem.W.subIn K (.ref C) (.type "BaseException") = some true) (tc : PySem.W.typeIn K (.ref C) = some (.type "type")) (kc : PySem.W.keepIn K (.ref C) = true) (hc : PySem.W.hasDictIn K C = true) (iha : PySem.W.findIn K (.ref C) "__class__" = some (some (.builtin "object.__class__"))) (ihn : PySem.W.specialIn K (.builtin "object.__class__") "__get__" = some (some (.builtin "getset_descriptor.__get__"))) (iht : PySem.W.takesIn K (.builtin "object.__class__") = some true) (ihm : PySem.W.mroIn K C (.type "object") = some true) (at_ : attI K C x.fs)
    (i : PySem.W.findIn K (.ref C) "__init__" = some (some (.ref fI))) (t : PySem.W.typeIn K (.ref fI) = some (.type "function")) (l : K.lookup fI = some ⟨oc, od, .func (PySem.W.fnOf "__init__" qual (defArgs st) (defBody st) (defScope st) .none kV dc pm an cd ct), sl⟩) (c : PySem.W.codeIn K cd qual = true) (k : PySem.W.keepIn K (.ref fI) = true)
    (rd : PySem.W.readsIn K C0 (.type "type") = true) (sp : PySem.W.specialIn K (.ref C0) "__getattribute__" = some (some (.builtin "type.__getattribute__"))) (fc : PySem.W.findCls K (.ref C0) (.type "type") "__init__" = some (.val (.builtin "ValueError.__init__"))) : excI K x st :=
  ⟨C, a, ⟨ga, gg, ec, hc⟩, ⟨iha, ihn, iht, ihm⟩, at_, ⟨fI, qual, od, an, sl, oc, kV, dc, pm, cd, ct, i, t, l, c, k⟩, .inl ⟨C0, ⟨⟨nm, q, N, bs, _, sn, sub, ab, col, dd, m0, m1, m2, m3, m5, xl, rfl⟩, sa, ec, tc, kc⟩, b, rd, sp, fc⟩⟩
theorem excI_exc {K : PySem.W.Frag} {x : XC} {st : Stmt} (qual : Str) {C fI : Addr} {nm q : Str} {N : Addr} {bs : List Value} {sn : List Str} {sub : List Value} {ab : Bool} {col : Option Bool} {dd : Option Addr} {m0 m1 m2 m3 m5 : Option Value} {od an : Option Addr} {sl : Array (Option Value)} {oc kV dc pm cd ct : Value} (hb : x.base = "Exception")
    (a : PySem.W.nsIn K mainGlobals x.nm = some (some (.ref C)))
    (xl : K.lookup C = some (excClassObj nm q C N bs PySem.ESX.exTail true sn sub ab col dd m0 m1 m2 m3 m5 "Exception.__new__"))
    (sa : PySem.W.findIn K (.ref C) "__setattr__" = some (some (.builtin "object.__setattr__"))) (ga : PySem.W.findIn K (.ref C) "__getattribute__" = some (some (.builtin "BaseException.__getattribute__"))) (gg : PySem.W.findIn K (.ref C) "__getattr__" = some none)
    (ec : PySem.W.subIn K (.ref C) (.type "BaseException") = some true) (tc : PySem.W.typeIn K (.ref C) = some (.type "type")) (kc : PySem.W.keepIn K (.ref C) = true) (hc : PySem.W.hasDictIn K C = true) (iha : PySem.W.findIn K (.ref C) "__class__" = some (some (.builtin "object.__class__"))) (ihn : PySem.W.specialIn K (.builtin "object.__class__") "__get__" = some (some (.builtin "getset_descriptor.__get__"))) (iht : PySem.W.takesIn K (.builtin "object.__class__") = some true) (ihm : PySem.W.mroIn K C (.type "object") = some true) (at_ : attI K C x.fs)
    (i : PySem.W.findIn K (.ref C) "__init__" = some (some (.ref fI))) (t : PySem.W.typeIn K (.ref fI) = some (.type "function")) (l : K.lookup fI = some ⟨oc, od, .func (PySem.W.fnOf "__init__" qual (defArgs st) (defBody st) (defScope st) .none kV dc pm an cd ct), sl⟩) (c : PySem.W.codeIn K cd qual = true) (k : PySem.W.keepIn K (.ref fI) = true)
    (fc : PySem.W.findCls K (.type "Exception") (.type "type") "__init__" = some (.val (.builtin "Exception.__init__"))) : excI K x st :=
  ⟨C, a, ⟨ga, gg, ec, hc⟩, ⟨iha, ihn, iht, ihm⟩, at_, ⟨fI, qual, od, an, sl, oc, kV, dc, pm, cd, ct, i, t, l, c, k⟩, .inr ⟨hb, ⟨⟨nm, q, N, bs, sn, sub, ab, col, dd, m0, m1, m2, m3, m5, xl⟩, sa, ec, tc, kc⟩, fc⟩⟩
/-- the static part of an exception's class: names, params, its __init__ -/
structure XS (x : XC) (st : Stmt) (N ps : List Str) : Prop where
  fl : x.fs ≠ [] ∧ x.fs.length ≤ 8
  db : (x.base == ("__debug__" : Str)) = false
  sc : FnScope N ps (defScope st)
  ln : ps.length = x.fs.length + 1
  ib : initB N (defScope st) x.base x.fs (defBody st) = true
  bi : ∀ (qual : Str) (kV doc pm : Value) (an : Option Addr) (cdv ct : Value) (us : List Value), us.length = ps.length → bindArgs (PySem.W.fnOf "__init__" qual (defArgs st) (defBody st) (defScope st) .none kV doc pm an cdv ct) ⟨us, []⟩ = pure (ps.zip us)
theorem xtab_of {K : PySem.W.Frag} {mg : Str → Option Value} {h : Heap} (X : K.In h) (Gn : h.Ns mainGlobals mg) (he : mg "Exception" = none) {x : XC} {st : Stmt} {N ps : List Str} (S : XS x st N ps) (E : excI K x st) : ∃ C, XTab K mg x C := by
  obtain ⟨C, a, xf, ic, at_, ⟨fI, qual, od, an, sl, oc, kV, dc, pm, cd, ct, i, t, l, c, k⟩, hb⟩ := E
  refine ⟨C, a, PySem.W.mg_of X Gn a, ?_, S.fl, xf, ic, attI_all at_, fI, _, st, qual, N, ps, i, t, fun_mk l c k, S.sc, S.ln, S.ib, fun us hl => S.bi _ _ _ _ _ _ _ us hl⟩
  rcases hb with ⟨C0, o, b, rd, sp, fc⟩ | ⟨eb, o, fc⟩
  · exact .own o (PySem.W.mg_of X Gn b) S.db rd sp fc
  · rw [eb]; exact .exc o he fc
def exmP (K : PySem.W.Frag) (c c' : Str) (b : Bool) : Prop := ∃ C C', PySem.W.nsIn K mainGlobals c = some (some (.ref C)) ∧ PySem.W.nsIn K mainGlobals c' = some (some (.ref C')) ∧ PySem.W.exmOne K (.ref C) (.ref C') = some b
theorem exmP_mk {K : PySem.W.Frag} {c c' : Str} {b : Bool} {C C' : Addr} (h1 : PySem.W.nsIn K mainGlobals c = some (some (.ref C))) (h2 : PySem.W.nsIn K mainGlobals c' = some (some (.ref C'))) (h3 : PySem.W.subIn K (.ref C') (.type "BaseException") = some true) (h4 : PySem.W.isClsIn K C' = true) (h5 : PySem.W.typeIn K (.ref C') = some (.type "type")) (h6 : PySem.W.subIn K (.ref C) (.ref C') = some b) : exmP K c c' b := by
  refine ⟨C, C', h1, h2, ?_⟩
  have e1 : (PySem.W.subIn K (.ref C') (.type "BaseException") == some true) = true := by rw [h3] <;> rfl
  have e2 : ((PySem.W.clsIn K C').isSome && PySem.W.typeIn K (.ref C') == some (.type "type")) = true := by
    have h2' : (PySem.W.clsIn K C').isSome = true := h4
    rw [h2', h5] <;> rfl
  show (if (PySem.W.subIn K (.ref C') (.type "BaseException") == some true) = true then (if ((PySem.W.clsIn K C').isSome && PySem.W.typeIn K (.ref C') == some (.type "type")) = true then PySem.W.subIn K (.ref C) (.ref C') else none) else none) = some b
  rw [if_pos e1, if_pos e2]
  exact h6
/-- the def's code object is the one at c -/
def codeAt (K : PySem.W.Frag) (nm : Str) (c : Addr) : Prop := ∃ (f : Addr) (oc : Value) (od : Option Addr) (fd : FuncData) (sl : Array (Option Value)), PySem.W.nsIn K mainGlobals nm = some (some (.ref f)) ∧ K.lookup f = some ⟨oc, od, .func fd, sl⟩ ∧ fd.code = .ref c
structure lamAll (K : PySem.W.Frag) (fd : FnD) : Prop where
  cl : fd.cl = Str.empty
  at_ : ∃ p ∈ TabT.cs, p.2.2 = lamQ fd.own ∧ codeAt K fd.nm p.1
theorem lamAll.of {K : PySem.W.Frag} {fd : FnD} {f : Addr} {oc : Value} {od : Option Addr} {fdat : FuncData} {sl : Array (Option Value)} (h : lamAll K fd) (a : PySem.W.nsIn K mainGlobals fd.nm = some (some (.ref f))) (l : K.lookup f = some ⟨oc, od, .func fdat, sl⟩) : LamF fdat fd.own := by
  obtain ⟨p, hp, e, f', oc', od', fd', sl', a', l', c'⟩ := h.at_
  have := ns_one a a'
  subst this
  rw [l] at l'
  cases l'
  exact ⟨p, hp, c', e⟩
/-- a def that makes a lambda: its code object, its table -/
structure LamAt (K : PySem.W.Frag) (nm : Str) (c P : Addr) (ts : List Addr) : Prop where
  at_ : codeAt K nm c
  hd : PySem.W.codeHdIn K c P = true
  no : K.lookup P = none
  mem : P ∈ ts
theorem lamAt_mk {K : PySem.W.Frag} {nm own : Str} {st : Stmt} {c P f : Addr} {ts : List Addr} {od an oc' : Option Addr} {sl sl' : Array (Option Value)} {oc kV dc pm ct : Value} {vs : Array Value} (a : PySem.W.nsIn K mainGlobals nm = some (some (.ref f)))
    (l : K.lookup f = some ⟨oc, od, .func (PySem.W.fnOf own own (defArgs st) (defBody st) (defScope st) .none kV dc pm an (.ref c) ct), sl⟩) (lc : K.lookup c = some ⟨.type "code", oc', .fields vs, sl'⟩) (hP : vs[11]? = some (.ref P))
    (hd : PySem.W.codeHdIn K c P = true) (no : K.lookup P = none) (mem : P ∈ ts) : LamAt K nm c P ts := ⟨⟨f, _, _, _, _, a, l, rfl⟩, hd, no, mem⟩
theorem inj_nodup {α β : Type} {f : α → β} : ∀ {l : List α}, (l.map f).Nodup → ∀ a, a ∈ l → ∀ b, b ∈ l → f a = f b → a = b
  | x :: l, h, a, ha, b, hb, e => by
    rw [List.map_cons, List.nodup_cons] at h
    rcases List.mem_cons.mp ha with ea | ha'
    · rcases List.mem_cons.mp hb with eb | hb'
      · rw [ea, eb]
      · exact absurd (List.mem_map.mpr ⟨b, hb', by rw [← e, ea]⟩) h.1
    · rcases List.mem_cons.mp hb with eb | hb'
      · exact absurd (List.mem_map.mpr ⟨a, ha', by rw [e, eb]⟩) h.1
      · exact inj_nodup h.2 a ha' b hb' e
theorem oneP_of (h : (TabT.cs.map fun p => p.2.1).Nodup) : OneP := by
  intro p hp q hq e
  obtain ⟨r, hr, rfl⟩ := List.mem_map.mp hq
  rw [inj_nodup h r hr p hp e]
theorem tab_of {K : PySem.W.Frag} {mg : Str → Option Value} {B : Tb} {h : Heap} (X : K.In h) (Gn : h.Ns mainGlobals mg) (he : mg "Exception" = none)
    (H : ∀ (i : Nat) (fd : FnD), B.T[i]? = some fd → ∃ st, fdIn K B fd st ∧ scB fd st = true ∧ isB B (s0 fd st) fd.body (defBody st) = true)
    (HX : ∀ t ∈ B.X, ∃ st N ps, XS t st N ps ∧ excI K t st) (HL : ∀ (i : Nat) (fd : FnD), B.T[i]? = some fd → fd.lm = true → lamAll K fd) (op : OneP) : Tab K mg B := ⟨fun i fd e => by
  obtain ⟨st, hd, sc, is⟩ := H i fd e
  rcases hd with ⟨n, kws, kf⟩ | ⟨hc, hdf, pa, f, od, an, sl, oc, kV, dc, pm, cd, ct, a1, l1, c1, k1⟩ | ⟨hc, hdf, hown, pa, ⟨C, f, qual, od, an, sl, oc, kV, dc, pm, cd, ct, a1, b1, i1, l1, c1, k1⟩, kk, hk, ek, C', ck, at_, mk, kc⟩
  · obtain ⟨f, D, od, an, sl, oc, dc, pm, cd, ct, a1, l1, c1, k1, q1⟩ := kf.di
    have bd : BindsD K (PySem.W.fnOf fd.own fd.own (defArgs st) (defBody st) (defScope st) .none (.ref D) dc pm an cd ct) fd := by
      obtain ⟨us0, hl, rk, hks⟩ := kwd_vals (kwsI_all q1)
      refine ⟨us0, kws.map (·.2), fun s us X hlen => ?_, rk, kf.rp⟩
      have l2 : us.length = n := by
        have := kf.ln
        rw [List.length_append, hl] at hlen
        omega
      exact BindsTo.of_looks fun M => KwChain.looks X hks (kf.ka _ D dc pm an cd ct us us0 l2 hl)
    exact ⟨f, _, st, fd.own, ⟨⟨oc, od, _, _, dc, pm, an, cd, ct, sl, rfl, l1, c1⟩, k1⟩, scB_ok sc, is, bd, ⟨fun _ => PySem.W.mg_of X Gn a1, fun n => absurd kf.cl n⟩, fun he => absurd (List.isEmpty_iff.mp he) kf.df, fun e' => (HL i fd e e').of a1 l1⟩
  · have bd : ∀ us : List Value, us.length = fd.ps.length → bindArgs (PySem.W.fnOf fd.own fd.own (defArgs st) (defBody st) (defScope st) .none kV dc pm an cd ct) ⟨us, []⟩ = pure (fd.ps.zip us) := fun us hl => pa _ _ _ _ _ _ _ us hl
    exact ⟨f, _, st, fd.own, ⟨⟨oc, od, _, kV, dc, pm, an, cd, ct, sl, rfl, l1, c1⟩, k1⟩, scB_ok sc, is, ⟨[], [], .all bd, .nil, fun _ _ _ => by rw [hdf]; exact .nil⟩, ⟨fun _ => PySem.W.mg_of X Gn a1, fun n => absurd hc n⟩, fun _ => bd, fun e' => (HL i fd e e').of a1 l1⟩
  · rw [ek] at ck
    have := ns_one ck.at_ a1
    subst this
    have bd : ∀ us : List Value, us.length = fd.ps.length → bindArgs (PySem.W.fnOf fd.nm qual (defArgs st) (defBody st) (defScope st) .none kV dc pm an cd ct) ⟨us, []⟩ = pure (fd.ps.zip us) := fun us hl => by rw [← hown]; exact pa _ _ _ _ _ _ _ us hl
    exact ⟨f, _, st, qual, ⟨⟨oc, od, _, kV, dc, pm, an, cd, ct, sl, by rw [hown], l1, c1⟩, k1⟩, scB_ok sc, is, ⟨[], [], .all bd, .nil, fun _ _ _ => by rw [hdf]; exact .nil⟩, ⟨fun n => absurd n hc, fun _ => ⟨C', ck, PySem.W.mg_of X Gn a1, fun en => ⟨mk, by rw [← en]; exact b1, i1, kc⟩, fun _ => ⟨b1, i1, k1⟩⟩⟩, fun _ => bd, fun e' => absurd (HL i fd e e').cl hc⟩, op, fun t ht => let ⟨st, N, ps, S, E⟩ := HX t ht; xtab_of X Gn he S E⟩
/-! a dict of the module, as the row tells it -/
def gdIn (w : World) (K : PySem.W.Frag) (nm : Str) (t : List (Str × D)) : Prop := ∃ a, PySem.W.nsIn K mainGlobals nm = some (some (.ref a)) ∧ GdK K w a t
def entOf (e : DictEntry) : Option (Str × D) := match e.key, e.val with
  | .str x _, .int i _ => some (x, .int i)
  | .str x _, .str i _ => some (x, .str i)
  | _, _ => none
def entsOf : List DictEntry → Option (List (Str × D))
  | [] => some []
  | e :: r => (entOf e).bind fun p => (entsOf r).map (p :: ·)
def dicD (K : PySem.W.Frag) (a : Addr) : Option (List (Str × D)) := match K.lookup a with
  | some ⟨_, _, .dict es _, _⟩ => entsOf es.toList
  | _ => none
theorem entOf_some {e : DictEntry} {p : Str × D} (h : entOf e = some p) : ∃ t v, e.key = .str p.1 t ∧ RelV v e.val ∧ sVal p.2 v := by
  unfold entOf at h
  split at h
  · rename_i x t i u h1 h2
    cases h
    exact ⟨t, .int i, h1, ⟨u, h2⟩, rfl⟩
  · rename_i x t i u h1 h2
    cases h
    exact ⟨t, .str i, h1, ⟨u, h2⟩, rfl⟩
  · cases h
theorem ents_find {l : List DictEntry} : ∀ {t : List (Str × D)}, entsOf l = some t → ∀ z, (look t z = none → l.find? (·.key.isStr z) = none) ∧ (∀ d, look t z = some d → ∃ e v, l.find? (·.key.isStr z) = some e ∧ RelV v e.val ∧ sVal d v) ∧ l.any (·.refKey) = false := by
  induction l with
  | nil => intro t h z; cases h; exact ⟨fun _ => rfl, (fun d h => by cases h), rfl⟩
  | cons e r ih =>
    intro t h z
    simp only [entsOf] at h
    obtain ⟨p, hp, h⟩ := Option.bind_eq_some_iff.mp h
    obtain ⟨t', ht, rfl⟩ := Option.map_eq_some_iff.mp h
    obtain ⟨tk, v, hk, hv, hs⟩ := entOf_some hp
    obtain ⟨i1, i2, i3⟩ := ih ht z
    have ei : e.key.isStr z = decide (p.1 = z) := by rw [hk]; show (p.1 == z) = _; by_cases hpz : p.1 = z <;> simp [hpz]
    simp only [look, List.find?_cons, ei, List.any_cons, i3, Bool.or_false]
    refine ⟨?_, ?_, ?_⟩
    · intro h
      split at h
      · cases h
      · rename_i hne
        simp only [hne, decide_false]
        exact i1 h
    · intro d h
      split at h
      · rename_i he
        cases h
        simp only [he, decide_true]
        exact ⟨e, v, rfl, hv, hs⟩
      · rename_i hne
        simp only [hne, decide_false]
        exact i2 d h
    · unfold DictEntry.refKey; rw [hk]
theorem gdIn_of {w : World} {K : PySem.W.Frag} {nm : Str} {t : List (Str × D)} {a : Addr} {ks : List Str} (h1 : PySem.W.nsIn K mainGlobals nm = some (some (.ref a))) (h2 : He.dicW K a = some (He.keysIn w.params ks)) (h3 : dicD K a = some t) : gdIn w K nm t := by
  refine ⟨a, h1, He.dicW_ok h2, ?_, ?_⟩
  all_goals
    unfold dicD at h3
    unfold PySem.W.nsIn
    split at h3
    · rename_i es n _ hl
      rw [hl]
      intro z
      obtain ⟨e1, e2, e3⟩ := ents_find h3 z
      simp only [e3]
      first
        | (intro h; rw [e1 h]; rfl)
        | (intro d h; obtain ⟨e, v, q1, q2, q3⟩ := e2 d h; rw [q1]; exact ⟨_, v, rfl, q2, q3⟩)
    · cases h3
theorem gdIn_mk {w : World} {K : PySem.W.Frag} {nm : Str} {t : List (Str × D)} {a : Addr} {ks : List Str} {es : Array DictEntry} {n : Nat} {sl : Array (Option Value)} (h1 : PySem.W.nsIn K mainGlobals nm = some (some (.ref a))) (hl : K.lookup a = some ⟨.type "dict", none, .dict es n, sl⟩)
    (h3 : (sl.isEmpty && !(a == sysModules)) = true) (h4 : es.toList.map He.keyOf = He.keysIn w.params ks) (h5 : entsOf es.toList = some t) : gdIn w K nm t := by
  refine gdIn_of (ks := ks) h1 ?_ ?_
  · unfold He.dicW
    rw [hl]
    show (match decide (("dict" : Str) = "dict") && (sl.isEmpty && !(a == sysModules)) with | true => some (es.toList.map He.keyOf) | false => none) = _
    rw [h3, decide_eq_true rfl]
    show some (es.toList.map He.keyOf) = _
    rw [h4]
  · unfold dicD
    rw [hl]
    exact h5
theorem glo_of {K : PySem.W.Frag} {mg : Str → Option Value} {B : Tb} {w : World} {h : Heap} (X : K.In h) (Gn : h.Ns mainGlobals mg) (bl : ∀ x ∈ bnames, PySem.W.nsIn K mainGlobals x = some none)
    (gl : ∀ (i : Nat) (x : Str) (d : D), B.G[i]? = some (x, d) → ∃ v u, PySem.W.nsIn K mainGlobals x = some (some u) ∧ RelV v u ∧ ∀ Z ph H, RepV K Z ph H v d)
    (xm : ∀ t ∈ B.X, ∀ c ∈ B.qs, exmP K t.nm c (decide (c ∈ t.sup))) (xq : ∀ c ∈ B.qs, ∃ C', PySem.W.nsIn K mainGlobals c = some (some (.ref C'))) (cl : ∀ k ∈ B.C, clsI K k) (gd : ∀ p ∈ B.D, gdIn w K p.1 p.2) : Glo w K mg B :=
  ⟨fun x hx => PySem.W.mg_none_of X Gn (bl x hx), fun i x d e => let ⟨v, u, h1, h2, h3⟩ := gl i x d e; ⟨v, u, PySem.W.mg_of X Gn h1, h2, h3⟩,
    fun t ht c hc C C' h1 h2 => by
      obtain ⟨D, D', d1, d2, d3⟩ := xm t ht c hc
      have e1 := ns_one d1 h1
      subst e1
      have e2 := PySem.W.mg_of X Gn d2
      rw [h2] at e2
      cases e2
      exact d3, fun c hc => let ⟨C', h⟩ := xq c hc; ⟨C', PySem.W.mg_of X Gn h⟩, fun k hk => let ⟨C, c1, c2, _⟩ := cl k hk; ⟨C, c1, attI_all c2⟩, fun p hp => let ⟨a, h1, h2⟩ := gd p hp; ⟨a, PySem.W.mg_of X Gn h1, h2⟩⟩
/-- the law's end: the pure statement is left -/
theorem law_walkT {l : PySem.W.OpenLaw} {q : Program} {loose : List Str} {XP : (Str → Option Value) → Heap → Prop} {YP : World → Heap → Prop} {d : DefRec} {K : Params → PySem.W.Frag} {B : Tb} {N li : Nat} {fd : FnD} {x : Str}
    (hn : l.most = some 63) (hdf : d.params.defaults = []) (hr : Room ((2 * N + 19) / 3) callerA) (hli : B.T[li]? = some fd) (hps : fd.ps = [x]) (hnm : d.name = fd.nm) (hcl : fd.cl = Str.empty) (hdf0 : fd.df.isEmpty = true)
    (hY : ∀ (w : World) (h : Heap), YP w h → (K w.params).In h)
    (tab : ∀ (w : World) (mg : Str → Option Value) (h : Heap), YP w h → (K w.params).In h → h.Ns mainGlobals mg → ∃ T : TabT, @Tab T (K w.params) mg B ∧ Glo w (K w.params) mg B ∧
      ∀ p ∈ T.cs, PySem.W.codeHdIn (K w.params) p.1 p.2.1 = true ∧ (K w.params).lookup p.2.1 = none ∧ h.get? p.2.1 = some { cls := .none, data := .fields #[] })
    (hrun : ∀ ns : List Int, ns.length ≤ 63 → ∃ m', run B.T (gv B.G) B.xf (N + 1) li [.frz (ns.map .int)] [] = .ok (.bl true) m') :
    PySem.W.WalkO q loose XP YP l.row.toRowW d [] (fun f vs => PySem.call f vs) :=
  LamX.walk_ofTs (n := 63) (k := (2 * N + 19) / 3) (x := x) (CX := fun w => CX l.prog w) hn (by decide) hdf hr hY (fun w mg fa h Y X Gn hfa => by
    obtain ⟨T, Tb, Gk, ht⟩ := tab w mg h Y X Gn
    obtain ⟨f, fdat, st, qual, Fu, Sc, is, bi, mgf, bi0, lf⟩ := Tb.fn li fd hli
    rw [hnm, mgf.pl hcl] at hfa
    cases hfa
    have mem : ∀ {p : Addr × Addr}, p ∈ (TabT.cs.map fun p : Addr × Addr × Str => (p.1, p.2.1)) → ∃ r ∈ TabT.cs, p = (r.1, r.2.1) := fun {p} hp => by
      obtain ⟨r, hr, e⟩ := List.mem_map.mp hp
      exact ⟨r, hr, e.symm⟩
    refine ⟨fdat, TabT.cs.map fun p => (p.1, p.2.1), spLawT (K w.params), fun p hp => ?_, fun p hp => ?_, fun p hp => ?_, fun s u => .of_eq (by rw [bi0 hdf0 [u] (by rw [hps]; rfl), hps]; rfl), fun H a ns hl _ hH hS => ?_, fun base _ _ hb => ?_⟩
    · obtain ⟨r, hr, rfl⟩ := mem hp
      exact (ht r hr).2.2
    · obtain ⟨r, hr, rfl⟩ := mem hp
      exact (ht r hr).2.1
    · obtain ⟨r, hr, rfl⟩ := mem hp
      exact PySem.W.codeHd_of_K X (ht r hr).1
    · refine ⟨a, ns, rfl, hS, fun p hp => ?_, hl, fun _ => rfl, fun _ _ _ z => z⟩
      obtain ⟨r, hr, rfl⟩ := List.mem_map.mp hp
      exact .nil (hH _ (List.mem_map.mpr ⟨r, hr, rfl⟩))
    · have tb : ∀ p ∈ TabT.cs, LamX.TabB base mg p.1 p.2.1 := fun p hp => hb (p.1, p.2.1) (List.mem_map.mpr ⟨p, hp, rfl⟩)
      have k1 := fn_ok (P := l.prog) (w := w) (base := base) tb Tb.op (lev tb Tb Gk N) Gk Tb.xc Fu Sc is lf
      rw [← hps]
      have k2 := k1.ok (k := (2 * N + 19) / 3) (by omega)
      rw [hps] at k2 ⊢
      refine fnok_frz (k2.imp fun vs H Q E q => ?_)
      refine law_sp (fun ns hl => ?_) vs H Q E q
      obtain ⟨m', hm⟩ := hrun ns hl
      simp only [run, hli] at hm
      exact ⟨m', hm⟩) fun _ _ _ _ _ ⟨_, _, _, _, _, _, _, _, _, _, _, _, z⟩ => z
end Pv
namespace Pv
open PySem L2
/-- no lambda is made -/
instance T0 : TabT := ⟨[]⟩
theorem op0 : OneP := fun p hp => nomatch hp
theorem hl0 {K : PySem.W.Frag} {B : Tb} (h : (B.T.all fun fd => !fd.lm) = true) (i : Nat) (fd : FnD) (e : B.T[i]? = some fd) (e' : fd.lm = true) : lamAll K fd := by
  have := List.all_eq_true.mp h fd (List.mem_of_getElem? e)
  rw [e'] at this
  cases this
theorem law_walk {l : PySem.W.OpenLaw} {q : Program} {loose : List Str} {XP : (Str → Option Value) → Heap → Prop} {YP : World → Heap → Prop} {d : DefRec} {K : Params → PySem.W.Frag} {B : Tb} {N li : Nat} {fd : FnD} {x : Str}
    (hn : l.most = some 63) (hdf : d.params.defaults = []) (hr : Room ((2 * N + 19) / 3) callerA) (hli : B.T[li]? = some fd) (hps : fd.ps = [x]) (hnm : d.name = fd.nm) (hcl : fd.cl = Str.empty) (hdf0 : fd.df.isEmpty = true)
    (hY : ∀ (w : World) (h : Heap), YP w h → (K w.params).In h)
    (tab : ∀ (w : World) (mg : Str → Option Value) (h : Heap), (K w.params).In h → h.Ns mainGlobals mg → Tab (K w.params) mg B ∧ Glo w (K w.params) mg B)
    (hrun : ∀ ns : List Int, ns.length ≤ 63 → ∃ m', run B.T (gv B.G) B.xf (N + 1) li [.frz (ns.map .int)] [] = .ok (.bl true) m') :
    PySem.W.WalkO q loose XP YP l.row.toRowW d [] (fun f vs => PySem.call f vs) :=
  law_walkT hn hdf hr hli hps hnm hcl hdf0 hY (fun w mg h _ X Gn => let ⟨a, b⟩ := tab w mg h X Gn; ⟨T0, a, b, fun p hp => nomatch hp⟩) hrun
end Pv

namespace Pv
open PySem
/-! ## the evaluator by rows that simp can follow from the left: what comes next is always data -/
section
variable {α β : Type}
variable {a : α} {m : M} {f : α → M → Rz β} {g : α → M → R} {env : Env} {x : XV}
theorem z_ok : (Rz.ok a m).bind f = f a m := rfl
theorem z_ex : (Rz.ex x m).bind f = .ex x m := rfl
theorem z_sok : (Rz.ok a m).st env g = g a m := rfl
theorem z_sex : (Rz.ex x m).st env g = some (.xc x, env, m) := rfl
theorem z_of : Rz.of (some a) m = .ok a m := rfl
theorem z_grd {r : Rz α} : grd true r = r := rfl
end
theorem y_sEq {s t : String} : (Str.ofString s = Str.ofString t) = (s = t) := by
  apply propext
  constructor
  · intro h
    rw [Str.ofString_eq_toList, Str.ofString_eq_toList] at h
    have h1 : s.toList.map Char.toNat = t.toList.map Char.toNat := by
      have := congrArg (fun z : Str => z.cps.toList) h
      simpa using this
    have inj : ∀ (a b : List Char), a.map Char.toNat = b.map Char.toNat → a = b := by
      intro a
      induction a with
      | nil => intro b e; cases b with
        | nil => rfl
        | cons c d => cases e
      | cons c d ih => intro b e; cases b with
        | nil => cases e
        | cons c' d' =>
          simp only [List.map_cons, List.cons.injEq] at e
          rw [Char.ext (UInt32.toNat_inj.mp e.1), ih d' e.2]
    have h2 := inj _ _ h1
    exact String.toList_inj.mp h2
  · intro h; rw [h]
section
variable (F : Fn) (G : List D) (Xf : Str → Option (List Str)) (cx : Option (Nat × XV))
def kVar (o : Option (Option D)) (m : M) : O1 := match o with
  | some (some d) => .ok d m
  | _ => .no
def kAnd (b : E) (env : Env) (x : D) (m : M) : O1 := match x with
  | .bl true => evE F G cx b env m
  | .bl false => .ok (.bl false) m
  | _ => .no
def kOr (b : E) (env : Env) (x : D) (m : M) : O1 := match x with
  | .bl true => .ok (.bl true) m
  | .bl false => evE F G cx b env m
  | _ => .no
def kIfE (a b : E) (env : Env) (x : D) (m : M) : O1 := match x with
  | .bl true => evE F G cx a env m
  | .bl false => evE F G cx b env m
  | _ => .no
def kChainB (p : COp) (c : E) (env : Env) (y : D) (m : M) (o : Option Bool) : O1 := match o with
  | some true => (evE F G cx c env m).bind fun z m => .of ((cmpM m p y z).map .bl) m
  | some false => .ok (.bl false) m
  | none => .no
def kPO (lo : E) (env : Env) (m : M) : Rz (Option Int) := partO (fun env m => evE F G cx lo env m) (isNop lo) env m
def kPart (r : O1) : Rz (Option Int) := r.bind fun d m => match d with
  | .int i => .ok (some i) m
  | _ => .no
def kLc (r : Option (List D × M)) : O1 := match r with
  | some q => .ok (.lst q.1) q.2
  | none => .no
def ownN (own : List (Str × Nat)) : List Nat := own.map (·.2)
def kComp (own : List (Str × Nat)) (t : Tg) (e : E) (env : Env) (ds : List D) (m : M) : O1 := if ds.length ≤ lim then kLc (compL t (wipeE env (ownN own)) (evE F G cx e) ds m) else .no
def kCompI (own : List (Str × Nat)) (t : Tg) (c e : E) (env : Env) (ds : List D) (m : M) : O1 := if ds.length ≤ lim then kLc (compLI t (wipeE env (ownN own)) (evE F G cx c) (evE F G cx e) ds m) else .no
def kDc (l : Nat) (o : Option M) : O1 := match o with
  | some m' => .ok (.dic l) m'
  | none => .no
def kDcomp (own : List (Str × Nat)) (t : Tg) (k e : E) (env : Env) (ds : List D) (m : M) : O1 := if ds.length ≤ lim then kDc m.length (dcL t (wipeE env (ownN own)) m.length (evE F G cx k) (evE F G cx e) ds (m ++ [.dct []])) else .no
def kCompR (own : List (Str × Nat)) (t : Tg) (e : E) (env : Env) (m : M) (o : Option (Nat × List D)) : O1 := match o with
  | some p => if p.2.length ≤ lim then endL p.1 p.2 (compL t (wipeE env (ownN own)) (gdE p.1 p.2 (evE F G cx e)) p.2 m) else .no
  | none => .no
def kCompIR (own : List (Str × Nat)) (t : Tg) (c e : E) (env : Env) (m : M) (o : Option (Nat × List D)) : O1 := match o with
  | some p => if p.2.length ≤ lim then endL p.1 p.2 (compLI t (wipeE env (ownN own)) (gdE p.1 p.2 (evE F G cx c)) (evE F G cx e) p.2 m) else .no
  | none => .no
def kCompR0 (own : List (Str × Nat)) (t : Tg) (e : E) (env : Env) (x : D) (m : M) : O1 := kCompR F G cx own t e env m (lstAt m x)
def kCompIR0 (own : List (Str × Nat)) (t : Tg) (c e : E) (env : Env) (x : D) (m : M) : O1 := kCompIR F G cx own t c e env m (lstAt m x)
def kLc2 (r : Option (List D × M)) : O1 := match r with
  | some q => if q.1.length ≤ lim then .ok (.lst q.1) q.2 else .no
  | none => .no
def kComp2 (own : List (Str × Nat)) (t : Tg) (vs1 : List Nat) (t1 : Tg) (b c e : E) (env : Env) (ds : List D) (m : M) : O1 := if ds.length ≤ lim then kLc2 (comp2L t t1 vs1 (wipeE env (ownN own)) (evE F G cx b) (evE F G cx c) (evE F G cx e) ds m) else .no
def kMinK (i : Nat) (k : E) (env : Env) (x : D) (m : M) : O1 := .of (minKM (evE F G cx k) env i m x) m
def kSortK (i : Nat) (k : E) (env : Env) (x : D) (m : M) : O1 := .of ((sortKM (evE F G cx k) env i m x).map .lst) m
def kForR (t : Tg) (b : Ss) (env : Env) (m : M) (o : Option (Nat × List D)) : R := match o with
  | some p => endF p.1 p.2 (forL t (gdR p.1 p.2 (evB F G Xf b cx)) p.2 env m)
  | none => none
def kForR0 (t : Tg) (b : Ss) (env : Env) (x : D) (m : M) : R := kForR F G Xf cx t b env m (lstAt m x)
def kFstr (r : OA) : O1 := match calmR r with
  | some p => .of ((gluD Str.empty p.1).map .str) p.2
  | none => .no
-- statements
def rtE (o : Option Env) (m : M) : R := o.map fun e => (.nx, e, m)
def rtM (env : Env) (o : Option M) : R := o.map fun m => (.nx, env, m)
def kAug (i : Nat) (op : BOp) (e : E) (env : Env) (m : M) (o : Option (Option D)) : R := match o with
  | some (some a) => (evE F G cx e env m).st env fun b m => rtE ((augD op a b).map fun d => env.set i (some d)) m
  | _ => none
def kIfS (a b : Ss) (env : Env) (x : D) (m : M) : R := match x with
  | .bl true => evB F G Xf a cx env m
  | .bl false => evB F G Xf b cx env m
  | _ => none
def kSS (ss : Ss) (r : R) : R := r.bind fun r => match r.1 with
  | .nx => evB F G Xf ss cx r.2.1 r.2.2
  | _ => some r
def kTry (hs : Hs) (els : Ss) (r : R) : R := r.bind fun r => match r.1 with
  | .nx => evB F G Xf els cx r.2.1 r.2.2
  | .xc x => evH F G Xf hs x cx r.2.1 r.2.2
  | _ => some r
def kH (i : Option Nat) (b : Ss) (x : XV) (env : Env) (m : M) : R := if okSl env i then outH i (evB F G Xf b (cxO i x) (setO env i) m) else none
def kRaise (c : Str) (o : Option (List Str)) (env : Env) (ds : List D) (m : M) : R := match o with
  | some fs => if fs.length = ds.length then some (.xc ⟨c, mkX fs ds⟩, env, m) else none
  | none => none
def kAugat (o : E) (c f : Str) (op : BOp) (e : E) (env : Env) (x : D) (m : M) (q : Option D) : R := match q with
  | some a => (evE F G cx e env m).st env fun b m => rtM env ((augD op a b).bind fun d => setatM m c f d x)
  | none => none
end
def k_xbin_1 (op : BOp) (x : D) (y : D) (m : M) : O1 := .of (bopD m op x y) m
def k_xbin_0 (F : Fn) (G : List D) (cx : Option (Nat × XV)) (b : E) (env : Env) (op : BOp) (x : D) (m : M) : O1 := (evE F G cx b env m).bind (k_xbin_1 op x)
def k_xneg_0 (x : D) (m : M) : O1 := .of (negD x) m
def k_xcmp_1 (co : COp) (x : D) (y : D) (m : M) : O1 := .of ((cmpM m co x y).map .bl) m
def k_xcmp_0 (F : Fn) (G : List D) (cx : Option (Nat × XV)) (b : E) (env : Env) (co : COp) (x : D) (m : M) : O1 := (evE F G cx b env m).bind (k_xcmp_1 co x)
def k_xchain_1 (F : Fn) (G : List D) (cx : Option (Nat × XV)) (cp : COp) (c : E) (env : Env) (co : COp) (x : D) (y : D) (m : M) : O1 := kChainB F G cx cp c env y m (cmpM m co x y)
def k_xchain_0 (F : Fn) (G : List D) (cx : Option (Nat × XV)) (b : E) (env : Env) (cp : COp) (c : E) (co : COp) (x : D) (m : M) : O1 := (evE F G cx b env m).bind (k_xchain_1 F G cx cp c env co x)
def k_xisN_0 (x : D) (m : M) : O1 := .ok (.bl (decide (x = .non))) m
def k_xnotN_0 (x : D) (m : M) : O1 := .ok (.bl (!decide (x = .non))) m
def k_xnot_0 (x : D) (m : M) : O1 := .of (notD x) m
def k_xcall_0 (F : Fn) (f : Nat) (ds : List D) (m : M) : O1 := F f ds m
def k_xcallG_0 (F : Fn) (f : Nat) (ds : List D) (m : M) : O1 := gcD m (F f ds m)
def apD (a b : List D) : List D := a ++ b
theorem y_apN {b : List D} : apD [] b = b := rfl
theorem y_apC {x : D} {a b : List D} : apD (x :: a) b = x :: apD a b := rfl
theorem y_hmP {m : M} {r : O1} : hMode .pl m r = r := rfl
theorem y_hmG {m : M} {r : O1} : hMode .gc m r = gcD m r := rfl
theorem y_hmF {m : M} {r : O1} : hMode .fr m r = freshD m r := rfl
def k_xcallD_0 (F : Fn) (md : CM) (f : Nat) (dfs : List D) (ds : List D) (m : M) : O1 := hMode md m (F f (apD ds dfs) m)
def k_xstar_0 (i j : Nat) (env : Env) (d : D) (m : M) : R := rtE (starD i j d env) m
def k_xcallF_0 (F : Fn) (f : Nat) (ds : List D) (m : M) : O1 := freshD m (F f ds m)
def k_xmeth_1 (F : Fn) (f : Nat) (u : D) (ds : List D) (m : M) : O1 := F f (u :: ds) m
def k_xmeth_0 (F : Fn) (G : List D) (cx : Option (Nat × XV)) (cn : Str) (nm : Str) (as : Es) (env : Env) (f : Nat) (u : D) (m : M) : O1 := grd (methM m cn nm u) ((evA F G cx as env m).bind (k_xmeth_1 F f u))
def k_xmethG_1 (F : Fn) (f : Nat) (u : D) (ds : List D) (m : M) : O1 := gcD m (F f (u :: ds) m)
def k_xmethG_0 (F : Fn) (G : List D) (cx : Option (Nat × XV)) (cn : Str) (nm : Str) (as : Es) (env : Env) (f : Nat) (u : D) (m : M) : O1 := grd (methM m cn nm u) ((evA F G cx as env m).bind (k_xmethG_1 F f u))
def k_xmk_1 (m : M) (d : D) (m' : M) : O1 := grd (decide (d = .non)) (.ok (.obj m.length) m')
def k_xmk_0 (F : Fn) (f : Nat) (cn : Str) (ds : List D) (m : M) : O1 := (F f (.obj m.length :: ds) (m ++ [.ins cn []])).bind (k_xmk_1 m)
def k_xattr_0 (cn : Str) (fn : Str) (u : D) (m : M) : O1 := .of (attrM m cn fn u) m
def k_xdget_1 (x : D) (y : D) (m : M) : O1 := .of ((dlook m x y).map fun o => o.getD .non) m
def k_xdget_0 (F : Fn) (G : List D) (cx : Option (Nat × XV)) (b : E) (env : Env) (x : D) (m : M) : O1 := grd (isDic x) ((evE F G cx b env m).bind (k_xdget_1 x))
def k_xbi_0 (q : BI) (ds : List D) (m : M) : O1 := .of (biD m q ds) m
def k_xisi_0 (q : Ty) (x : D) (m : M) : O1 := .of ((isiD x q).map .bl) m
def k_xlistRg_0 (x : D) (m : M) : O1 := .of (listRgD x) m
def k_xix_1 (x : D) (y : D) (m : M) : O1 := .of (ixM m x y) m
def k_xix_0 (F : Fn) (G : List D) (cx : Option (Nat × XV)) (b : E) (env : Env) (x : D) (m : M) : O1 := (evE F G cx b env m).bind (k_xix_1 x)
def k_xsl_2 (x : D) (l : Option Int) (h : Option Int) (m : M) : O1 := .of (slD m x l h) m
def k_xsl_1 (F : Fn) (G : List D) (cx : Option (Nat × XV)) (c : E) (env : Env) (x : D) (l : Option Int) (m : M) : O1 := (kPO F G cx c env m).bind (k_xsl_2 x l)
def k_xsl_0 (F : Fn) (G : List D) (cx : Option (Nat × XV)) (b : E) (env : Env) (c : E) (x : D) (m : M) : O1 := (kPO F G cx b env m).bind (k_xsl_1 F G cx c env x)
def k_xtup_0 (ds : List D) (m : M) : O1 := .of (tupD ds) m
def k_xlst_0 (ds : List D) (m : M) : O1 := .of (lstD ds) m
def k_xbox_0 (x : D) (m : M) : O1 := boxM m x
def k_xpop_0 (x : D) (m : M) : O1 := popM m x
def k_xpopAt_1 (x : D) (y : D) (m : M) : O1 := popAtM m x y
def k_xpopAt_0 (F : Fn) (G : List D) (cx : Option (Nat × XV)) (b : E) (env : Env) (x : D) (m : M) : O1 := grd (isRef x) ((evE F G cx b env m).bind (k_xpopAt_1 x))
def k_xappend_1 (x : D) (y : D) (m : M) : O1 := appendM m y x
def k_xappend_0 (F : Fn) (G : List D) (cx : Option (Nat × XV)) (b : E) (env : Env) (x : D) (m : M) : O1 := grd (isRef x) ((evE F G cx b env m).bind (k_xappend_1 x))
def k_xrev_0 (x : D) (m : M) : O1 := .of (revD m x) m
def k_xgin_0 (t : List (Str × D)) (ng : Bool) (x : D) (m : M) : O1 := .of (ginD t ng x) m
def k_xgix_0 (t : List (Str × D)) (x : D) (m : M) : O1 := .of (gixD t x) m
def k_xtxt_0 (x : D) (m : M) : OA := .of (txtI x) m
def k_xstp_1 (x : D) (y : D) (m : M) : O1 := .of (stpD m x y) m
def k_xstp_0 (F : Fn) (G : List D) (cx : Option (Nat × XV)) (c : E) (env : Env) (x : D) (m : M) : O1 := (evE F G cx c env m).bind (k_xstp_1 x)
def k_xjoin_1 (x : D) (y : D) (m : M) : O1 := .of (joinD m x y) m
def k_xjoin_0 (F : Fn) (G : List D) (cx : Option (Nat × XV)) (b : E) (env : Env) (x : D) (m : M) : O1 := grd (isStr x) ((evE F G cx b env m).bind (k_xjoin_1 x))
def k_xfmt_0 (x : D) (m : M) : O1 := .of (txtD x) m
def k_xisB_0 (bb : Bool) (x : D) (m : M) : O1 := .of (isBD bb x) m
def k_xindex_1 (x : D) (y : D) (m : M) : O1 := .of (indexD m x y) m
def k_xindex_0 (F : Fn) (G : List D) (cx : Option (Nat × XV)) (b : E) (env : Env) (x : D) (m : M) : O1 := grd (isLs x) ((evE F G cx b env m).bind (k_xindex_1 x))
def k_xcons_1 (x : D) (xs : List D) (m : M) : OA := .ok (x :: xs) m
def k_xcons_0 (F : Fn) (G : List D) (cx : Option (Nat × XV)) (as : Es) (env : Env) (x : D) (m : M) : OA := (evA F G cx as env m).bind (k_xcons_1 x)
def k_xseq_0 (x : D) (m : M) : OA := .of (seqI x) m
def k_xrng1_0 (x : D) (m : M) : OA := .of (rng1I x) m
def k_xrng2_1 (x : D) (y : D) (m : M) : OA := .of (rng2I x y) m
def k_xrng2_0 (F : Fn) (G : List D) (cx : Option (Nat × XV)) (b : E) (env : Env) (x : D) (m : M) : OA := (evE F G cx b env m).bind (k_xrng2_1 x)
def k_xzip_1 (x : D) (y : D) (m : M) : OA := .of (zipD x y) m
def k_xzip_0 (F : Fn) (G : List D) (cx : Option (Nat × XV)) (b : E) (env : Env) (x : D) (m : M) : OA := (evE F G cx b env m).bind (k_xzip_1 x)
def k_xzipS_1 (x : D) (y : D) (m : M) : OA := .of (zipSD x y) m
def k_xzipS_0 (F : Fn) (G : List D) (cx : Option (Nat × XV)) (b : E) (env : Env) (x : D) (m : M) : OA := (evE F G cx b env m).bind (k_xzipS_1 x)
def k_xasg_0 (t : Tg) (env : Env) (d : D) (m : M) : R := rtE (bindTg m t d env) m
def k_xsetix_2 (env : Env) (v : D) (x : D) (y : D) (m : M) : R := rtM env (setM m v x y)
def k_xsetix_1 (F : Fn) (G : List D) (cx : Option (Nat × XV)) (b : E) (env : Env) (v : D) (x : D) (m : M) : R := (evE F G cx b env m).st env (k_xsetix_2 env v x)
def k_xsetix_0 (F : Fn) (G : List D) (cx : Option (Nat × XV)) (o : E) (env : Env) (b : E) (v : D) (m : M) : R := (evE F G cx o env m).st env (k_xsetix_1 F G cx b env v)
def k_xex_0 (env : Env) (u0 : D) (m : M) : R := some (.nx, env, m)
def k_xfor_0 (F : Fn) (G : List D) (Xf : Str → Option (List Str)) (cx : Option (Nat × XV)) (t : Tg) (ss : Ss) (env : Env) (ds : List D) (m : M) : R := forL t (evB F G Xf ss cx) ds env m
def k_xret_0 (env : Env) (d : D) (m : M) : R := some (.rt d, env, m)
def k_xsetat_1 (env : Env) (cn : Str) (fn : Str) (v : D) (x : D) (m : M) : R := rtM env (setatM m cn fn v x)
def k_xsetat_0 (F : Fn) (G : List D) (cx : Option (Nat × XV)) (o : E) (env : Env) (cn : Str) (fn : Str) (v : D) (m : M) : R := (evE F G cx o env m).st env (k_xsetat_1 env cn fn v)
def k_xaugat_0 (F : Fn) (G : List D) (cx : Option (Nat × XV)) (o : E) (cn : Str) (fn : Str) (op : BOp) (a : E) (env : Env) (x : D) (m : M) : R := kAugat F G cx o cn fn op a env x m (attrM m cn fn x)
def k_xraise_0 (Xf : Str → Option (List Str)) (cn : Str) (env : Env) (ds : List D) (m : M) : R := kRaise cn (Xf cn) env ds m
def k_ychainT_0 (cp : COp) (y : D) (z : D) (m : M) : O1 := .of ((cmpM m cp y z).map .bl) m
def k_yaug_0 (op : BOp) (d : D) (env : Env) (i : Nat) (b : D) (m : M) : R := rtE ((augD op d b).map fun d => env.set i (some d)) m
def k_yaugat_0 (env : Env) (op : BOp) (d : D) (cn : Str) (fn : Str) (x : D) (b : D) (m : M) : R := rtM env ((augD op d b).bind fun d => setatM m cn fn d x)
def k_xenum_0 (x : D) (m : M) : OA := .of (enumI x) m
section
variable {F : Fn} {G : List D} {Xf : Str → Option (List Str)} {cx : Option (Nat × XV)} {env e' : Env} {m : M} {x y d : D} {a b c o : E} {es : Es} {as : Es} {xs : List D} {op p : BOp} {co cp : COp} {i k f : Nat} {bb : Bool} {s : S} {ss : Ss} {t : Tg} {it : It} {v : Option D} {cn nm fn : Str}
theorem x_var : evE F G cx (.var i) env m = kVar env[i]? m := by rw [evE]; rfl
theorem y_var : kVar (some (some d)) m = .ok d m := rfl
theorem x_con : evE F G cx (.con d) env m = .ok d m := by rw [evE]
theorem x_glob : evE F G cx (.glob i) env m = .of G[i]? m := by rw [evE]
theorem x_bin : evE F G cx (.bin op a b) env m = (evE F G cx a env m).bind (k_xbin_0 F G cx b env op) := by rw [evE]; rfl
theorem x_neg : evE F G cx (.neg a) env m = (evE F G cx a env m).bind k_xneg_0 := by rw [evE]; rfl
theorem x_cmp : evE F G cx (.cmp co a b) env m = (evE F G cx a env m).bind (k_xcmp_0 F G cx b env co) := by rw [evE]; rfl
theorem x_chain : evE F G cx (.chain co cp a b c) env m = (evE F G cx a env m).bind (k_xchain_0 F G cx b env cp c co) := by
  rw [evE]
  rfl
theorem x_isN : evE F G cx (.isN a) env m = (evE F G cx a env m).bind k_xisN_0 := by rw [evE]; rfl
theorem x_notN : evE F G cx (.notN a) env m = (evE F G cx a env m).bind k_xnotN_0 := by rw [evE]; rfl
theorem x_and : evE F G cx (.and_ a b) env m = (evE F G cx a env m).bind (kAnd F G cx b env) := by rw [evE]; rfl
theorem x_and1 : evE F G cx (.and1 a) env m = evE F G cx a env m := by rw [evE]
theorem x_or : evE F G cx (.or_ a b) env m = (evE F G cx a env m).bind (kOr F G cx b env) := by rw [evE]; rfl
theorem x_or1 : evE F G cx (.or1 a) env m = evE F G cx a env m := by rw [evE]
theorem x_not : evE F G cx (.not_ a) env m = (evE F G cx a env m).bind k_xnot_0 := by rw [evE]; rfl
theorem x_ife : evE F G cx (.ife c a b) env m = (evE F G cx c env m).bind (kIfE F G cx a b env) := by rw [evE]; rfl
theorem x_call : evE F G cx (.call f as) env m = (evA F G cx as env m).bind (k_xcall_0 F f) := by rw [evE]; rfl
theorem x_callG : evE F G cx (.callG f as) env m = (evA F G cx as env m).bind (k_xcallG_0 F f) := by rw [evE]; rfl
theorem x_callF : evE F G cx (.callF f as) env m = (evA F G cx as env m).bind (k_xcallF_0 F f) := by rw [evE]; rfl
theorem x_callD {md : CM} {dfs : List D} : evE F G cx (.callD md f as dfs) env m = (evA F G cx as env m).bind (k_xcallD_0 F md f dfs) := by rw [evE]; rfl
theorem x_meth : evE F G cx (.meth a cn nm f as) env m = (evE F G cx a env m).bind (k_xmeth_0 F G cx cn nm as env f) := by rw [evE]; rfl
theorem x_methG : evE F G cx (.methG a cn nm f as) env m = (evE F G cx a env m).bind (k_xmethG_0 F G cx cn nm as env f) := by rw [evE]; rfl
theorem x_mk : evE F G cx (.mk cn f as) env m = (evA F G cx as env m).bind (k_xmk_0 F f cn) := by rw [evE]; rfl
theorem x_attr : evE F G cx (.attr a cn fn) env m = (evE F G cx a env m).bind (k_xattr_0 cn fn) := by rw [evE]; rfl
theorem x_xat : evE F G cx (.xat i fn) env m = .of (xatD i fn cx) m := by rw [evE]
theorem x_dnew : evE F G cx .dnew env m = .ok (.dic m.length) (m ++ [.dct []]) := by rw [evE]
theorem x_dget : evE F G cx (.dget a b) env m = (evE F G cx a env m).bind (k_xdget_0 F G cx b env) := by rw [evE]; rfl
theorem x_bi {q : BI} : evE F G cx (.bi q as) env m = (evA F G cx as env m).bind (k_xbi_0 q) := by rw [evE]; rfl
theorem x_isi {q : Ty} : evE F G cx (.isi a q) env m = (evE F G cx a env m).bind (k_xisi_0 q) := by rw [evE]; rfl
theorem x_listRg : evE F G cx (.listRg a) env m = (evE F G cx a env m).bind k_xlistRg_0 := by rw [evE]; rfl
theorem x_ix : evE F G cx (.ix a b) env m = (evE F G cx a env m).bind (k_xix_0 F G cx b env) := by rw [evE]; rfl
theorem x_sl : evE F G cx (.sl a b c) env m = (evE F G cx a env m).bind (k_xsl_0 F G cx b env c) := by rw [evE]; rfl
theorem x_tup : evE F G cx (.tup as) env m = (evA F G cx as env m).bind k_xtup_0 := by rw [evE]; rfl
theorem x_lst : evE F G cx (.lst as) env m = (evA F G cx as env m).bind k_xlst_0 := by rw [evE]; rfl
theorem x_comp {own : List (Str × Nat)} : evE F G cx (.comp own t it a) env m = (evI F G cx it env m).bind (kComp F G cx own t a env) := by rw [evE]; rfl
theorem x_compIf {own : List (Str × Nat)} : evE F G cx (.compIf own t it c a) env m = (evI F G cx it env m).bind (kCompI F G cx own t c a env) := by rw [evE]; rfl
theorem x_box : evE F G cx (.box a) env m = (evE F G cx a env m).bind k_xbox_0 := by rw [evE]; rfl
theorem x_pop : evE F G cx (.pop a) env m = (evE F G cx a env m).bind k_xpop_0 := by rw [evE]; rfl
theorem x_popAt : evE F G cx (.popAt a b) env m = (evE F G cx a env m).bind (k_xpopAt_0 F G cx b env) := by rw [evE]; rfl
theorem x_append : evE F G cx (.append a b) env m = (evE F G cx a env m).bind (k_xappend_0 F G cx b env) := by rw [evE]; rfl
theorem x_dcomp {own : List (Str × Nat)} : evE F G cx (.dcomp own t it b a) env m = (evI F G cx it env m).bind (kDcomp F G cx own t b a env) := by rw [evE]; rfl
theorem x_compR {own : List (Str × Nat)} : evE F G cx (.compR own t b a) env m = (evE F G cx b env m).bind (kCompR0 F G cx own t a env) := by rw [evE]; rfl
theorem x_compIR {own : List (Str × Nat)} : evE F G cx (.compIR own t b c a) env m = (evE F G cx b env m).bind (kCompIR0 F G cx own t c a env) := by rw [evE]; rfl
theorem x_comp2 {own : List (Str × Nat)} {vs1 : List Nat} {t1 : Tg} : evE F G cx (.comp2 own t it vs1 t1 b c a) env m = (evI F G cx it env m).bind (kComp2 F G cx own t vs1 t1 b c a env) := by rw [evE]; rfl
theorem x_minK {i : Nat} : evE F G cx (.minK a i b) env m = (evE F G cx a env m).bind (kMinK F G cx i b env) := by rw [evE]; rfl
theorem x_sortK {i : Nat} : evE F G cx (.sortK a i b) env m = (evE F G cx a env m).bind (kSortK F G cx i b env) := by rw [evE]; rfl
theorem x_gin {nm : Str} {t : List (Str × D)} {ng : Bool} : evE F G cx (.gin nm t ng a) env m = (evE F G cx a env m).bind (k_xgin_0 t ng) := by rw [evE]; rfl
theorem x_gix {nm : Str} {t : List (Str × D)} : evE F G cx (.gix nm t a) env m = (evE F G cx a env m).bind (k_xgix_0 t) := by rw [evE]; rfl
theorem x_txt : evI F G cx (.txt a) env m = (evE F G cx a env m).bind k_xtxt_0 := by rw [evI]; rfl
theorem x_stp : evE F G cx (.stp a c) env m = (evE F G cx a env m).bind (k_xstp_0 F G cx c env) := by rw [evE]; rfl
theorem x_rev : evE F G cx (.rev a) env m = (evE F G cx a env m).bind k_xrev_0 := by rw [evE]; rfl
theorem x_join : evE F G cx (.join a b) env m = (evE F G cx a env m).bind (k_xjoin_0 F G cx b env) := by rw [evE]; rfl
theorem x_fmt : evE F G cx (.fmt a) env m = (evE F G cx a env m).bind k_xfmt_0 := by rw [evE]; rfl
theorem x_isB : evE F G cx (.isB a bb) env m = (evE F G cx a env m).bind (k_xisB_0 bb) := by rw [evE]; rfl
theorem x_index : evE F G cx (.index a b) env m = (evE F G cx a env m).bind (k_xindex_0 F G cx b env) := by rw [evE]; rfl
theorem x_fstr : evE F G cx (.fstr as) env m = kFstr (evA F G cx as env m) := by rw [evE]; rfl
theorem x_nil : evA F G cx .nil env m = .ok [] m := by rw [evA]
theorem x_cons : evA F G cx (.cons a as) env m = (evE F G cx a env m).bind (k_xcons_0 F G cx as env) := by rw [evA]; rfl
theorem x_seq : evI F G cx (.seq a) env m = (evE F G cx a env m).bind k_xseq_0 := by rw [evI]; rfl
theorem x_rng1 : evI F G cx (.rng1 a) env m = (evE F G cx a env m).bind k_xrng1_0 := by rw [evI]; rfl
theorem x_rng2 : evI F G cx (.rng2 a b) env m = (evE F G cx a env m).bind (k_xrng2_0 F G cx b env) := by rw [evI]; rfl
theorem x_enum : evI F G cx (.enum a) env m = (evE F G cx a env m).bind k_xenum_0 := by rw [evI]; rfl
theorem x_zip : evI F G cx (.zip a b) env m = (evE F G cx a env m).bind (k_xzip_0 F G cx b env) := by rw [evI]; rfl
theorem x_zipS : evI F G cx (.zipS a b) env m = (evE F G cx a env m).bind (k_xzipS_0 F G cx b env) := by rw [evI]; rfl
-- statements
theorem x_asg : evS F G Xf (.asg t a) cx env m = (evE F G cx a env m).st env (k_xasg_0 t env) := by rw [evS]; rfl
theorem x_setix : evS F G Xf (.setix o b a) cx env m = (evE F G cx a env m).st env (k_xsetix_0 F G cx o env b) := by rw [evS]; rfl
theorem x_aug : evS F G Xf (.aug i op a) cx env m = kAug F G cx i op a env m env[i]? := by
  rw [evS]
  unfold kAug
  cases env[i]? with
  | none => rfl
  | some v =>
    cases v with
    | none => rfl
    | some d =>
      simp only
      congr 1
      funext b m
      cases augD op d b <;> rfl
theorem x_ex : evS F G Xf (.ex a) cx env m = (evE F G cx a env m).st env (k_xex_0 env) := by rw [evS]; rfl
theorem x_if {sa sb : Ss} : evS F G Xf (.ife a sa sb) cx env m = (evE F G cx a env m).st env (kIfS F G Xf cx sa sb env) := by rw [evS]; rfl
theorem x_for : evS F G Xf (.for_ t it ss) cx env m = (evI F G cx it env m).st env (k_xfor_0 F G Xf cx t ss env) := by rw [evS]; rfl
theorem x_forR : evS F G Xf (.forR t b ss) cx env m = (evE F G cx b env m).st env (kForR0 F G Xf cx t ss env) := by rw [evS]; rfl
theorem x_while : evS F G Xf (.while_ a ss) cx env m = whileL (evE F G cx a) (evB F G Xf ss cx) turns env m := by rw [evS]
theorem x_ret : evS F G Xf (.ret a) cx env m = (evE F G cx a env m).st env (k_xret_0 env) := by rw [evS]; rfl
theorem x_star {i j : Nat} : evS F G Xf (.star i j a) cx env m = (evE F G cx a env m).st env (k_xstar_0 i j env) := by rw [evS]; rfl
theorem x_brk : evS F G Xf .brk cx env m = some (.bk, env, m) := by rw [evS]
theorem x_cont : evS F G Xf .cont cx env m = some (.ct, env, m) := by rw [evS]
theorem x_pass : evS F G Xf .pass cx env m = some (.nx, env, m) := by rw [evS]
theorem x_retN : evS F G Xf .retN cx env m = some (.rt .non, env, m) := by rw [evS]
theorem x_setat : evS F G Xf (.setat o cn fn a) cx env m = (evE F G cx a env m).st env (k_xsetat_0 F G cx o env cn fn) := by rw [evS]; rfl
theorem x_augat : evS F G Xf (.augat o cn fn op a) cx env m = (evE F G cx o env m).st env (k_xaugat_0 F G cx o cn fn op a env) := by
  rw [evS]
  congr 1
  funext x m
  unfold k_xaugat_0 kAugat
  cases attrM m cn fn x with
  | none => rfl
  | some v =>
    simp only
    congr 1
    funext b m
    cases augD op v b <;> rfl
theorem x_raise : evS F G Xf (.raise_ cn as) cx env m = (evA F G cx as env m).st env (k_xraise_0 Xf cn env) := by rw [evS]; rfl
theorem x_try {hs : Hs} {els : Ss} : evS F G Xf (.try_ ss hs els) cx env m = kTry F G Xf cx hs els (evB F G Xf ss cx env m) := by rw [evS]; rfl
theorem x_bnil : evB F G Xf .nil cx env m = some (.nx, env, m) := by rw [evB]
theorem x_bcons : evB F G Xf (.cons s ss) cx env m = kSS F G Xf cx ss (evS F G Xf s cx env m) := by rw [evB]; rfl
theorem x_hyes {xv : XV} {yes no : List Str} {j : Option Nat} {hs : Hs} (h : xv.nm ∈ yes) : evH F G Xf (.cons cn yes no j ss hs) xv cx env m = kH F G Xf j ss xv env m := by rw [evH, if_pos h]; rfl
theorem x_hno {xv : XV} {yes no : List Str} {j : Option Nat} {hs : Hs} (h : xv.nm ∉ yes) (h' : xv.nm ∈ no) : evH F G Xf (.cons cn yes no j ss hs) xv cx env m = evH F G Xf hs xv cx env m := by rw [evH, if_neg h, if_pos h']
theorem x_hnil {xv : XV} : evH F G Xf .nil xv cx env m = some (.xc xv, env, m) := by rw [evH]
theorem y_k_xbin_1 {op : BOp} {x : D} {y : D} {m : M} : k_xbin_1 op x y m = .of (bopD m op x y) m := rfl
theorem y_k_xbin_0 {F : Fn} {G : List D} {cx : Option (Nat × XV)} {b : E} {env : Env} {op : BOp} {x : D} {m : M} : k_xbin_0 F G cx b env op x m = (evE F G cx b env m).bind (k_xbin_1 op x) := rfl
theorem y_k_xneg_0 {x : D} {m : M} : k_xneg_0  x m = .of (negD x) m := rfl
theorem y_k_xcmp_1 {co : COp} {x : D} {y : D} {m : M} : k_xcmp_1 co x y m = .of ((cmpM m co x y).map .bl) m := rfl
theorem y_k_xcmp_0 {F : Fn} {G : List D} {cx : Option (Nat × XV)} {b : E} {env : Env} {co : COp} {x : D} {m : M} : k_xcmp_0 F G cx b env co x m = (evE F G cx b env m).bind (k_xcmp_1 co x) := rfl
theorem y_k_xchain_1 {F : Fn} {G : List D} {cx : Option (Nat × XV)} {cp : COp} {c : E} {env : Env} {co : COp} {x : D} {y : D} {m : M} : k_xchain_1 F G cx cp c env co x y m = kChainB F G cx cp c env y m (cmpM m co x y) := rfl
theorem y_k_xchain_0 {F : Fn} {G : List D} {cx : Option (Nat × XV)} {b : E} {env : Env} {cp : COp} {c : E} {co : COp} {x : D} {m : M} : k_xchain_0 F G cx b env cp c co x m = (evE F G cx b env m).bind (k_xchain_1 F G cx cp c env co x) := rfl
theorem y_k_xisN_0 {x : D} {m : M} : k_xisN_0  x m = .ok (.bl (decide (x = .non))) m := rfl
theorem y_k_xnotN_0 {x : D} {m : M} : k_xnotN_0  x m = .ok (.bl (!decide (x = .non))) m := rfl
theorem y_k_xnot_0 {x : D} {m : M} : k_xnot_0  x m = .of (notD x) m := rfl
theorem y_k_xcall_0 {F : Fn} {f : Nat} {ds : List D} {m : M} : k_xcall_0 F f ds m = F f ds m := rfl
theorem y_k_xcallG_0 {F : Fn} {f : Nat} {ds : List D} {m : M} : k_xcallG_0 F f ds m = gcD m (F f ds m) := rfl
theorem y_k_xcallF_0 {F : Fn} {f : Nat} {ds : List D} {m : M} : k_xcallF_0 F f ds m = freshD m (F f ds m) := rfl
theorem y_k_xcallD_0 {F : Fn} {md : CM} {f : Nat} {dfs ds : List D} {m : M} : k_xcallD_0 F md f dfs ds m = hMode md m (F f (apD ds dfs) m) := rfl
theorem y_k_xstar_0 {i j : Nat} {env : Env} {d : D} {m : M} : k_xstar_0 i j env d m = rtE (starD i j d env) m := rfl
theorem star_ok {i j : Nat} {x : D} {xs : List D} {env : Env} (h : xs.length ≤ 1000) : starD i j (.tup (x :: xs)) env = some ((env.set i (some x)).set j (some (.lst xs))) := by simp only [starD, h, if_true]
theorem y_k_xmeth_1 {F : Fn} {f : Nat} {u : D} {ds : List D} {m : M} : k_xmeth_1 F f u ds m = F f (u :: ds) m := rfl
theorem y_k_xmeth_0 {F : Fn} {G : List D} {cx : Option (Nat × XV)} {cn : Str} {nm : Str} {as : Es} {env : Env} {f : Nat} {u : D} {m : M} : k_xmeth_0 F G cx cn nm as env f u m = grd (methM m cn nm u) ((evA F G cx as env m).bind (k_xmeth_1 F f u)) := rfl
theorem y_k_xmethG_1 {F : Fn} {f : Nat} {u : D} {ds : List D} {m : M} : k_xmethG_1 F f u ds m = gcD m (F f (u :: ds) m) := rfl
theorem y_k_xmethG_0 {F : Fn} {G : List D} {cx : Option (Nat × XV)} {cn : Str} {nm : Str} {as : Es} {env : Env} {f : Nat} {u : D} {m : M} : k_xmethG_0 F G cx cn nm as env f u m = grd (methM m cn nm u) ((evA F G cx as env m).bind (k_xmethG_1 F f u)) := rfl
theorem y_k_xmk_1 {m : M} {d : D} {m' : M} : k_xmk_1 m d m' = grd (decide (d = .non)) (.ok (.obj m.length) m') := rfl
theorem y_k_xmk_0 {F : Fn} {f : Nat} {cn : Str} {ds : List D} {m : M} : k_xmk_0 F f cn ds m = (F f (.obj m.length :: ds) (m ++ [.ins cn []])).bind (k_xmk_1 m) := rfl
theorem y_k_xattr_0 {cn : Str} {fn : Str} {u : D} {m : M} : k_xattr_0 cn fn u m = .of (attrM m cn fn u) m := rfl
theorem y_k_xdget_1 {x : D} {y : D} {m : M} : k_xdget_1 x y m = .of ((dlook m x y).map fun o => o.getD .non) m := rfl
theorem y_k_xdget_0 {F : Fn} {G : List D} {cx : Option (Nat × XV)} {b : E} {env : Env} {x : D} {m : M} : k_xdget_0 F G cx b env x m = grd (isDic x) ((evE F G cx b env m).bind (k_xdget_1 x)) := rfl
theorem y_k_xbi_0 {q : BI} {ds : List D} {m : M} : k_xbi_0 q ds m = .of (biD m q ds) m := rfl
theorem y_k_xisi_0 {q : Ty} {x : D} {m : M} : k_xisi_0 q x m = .of ((isiD x q).map .bl) m := rfl
theorem y_k_xlistRg_0 {x : D} {m : M} : k_xlistRg_0  x m = .of (listRgD x) m := rfl
theorem y_k_xix_1 {x : D} {y : D} {m : M} : k_xix_1 x y m = .of (ixM m x y) m := rfl
theorem y_k_xix_0 {F : Fn} {G : List D} {cx : Option (Nat × XV)} {b : E} {env : Env} {x : D} {m : M} : k_xix_0 F G cx b env x m = (evE F G cx b env m).bind (k_xix_1 x) := rfl
theorem y_k_xsl_2 {x : D} {l : Option Int} {h : Option Int} {m : M} : k_xsl_2 x l h m = .of (slD m x l h) m := rfl
theorem y_k_xsl_1 {F : Fn} {G : List D} {cx : Option (Nat × XV)} {c : E} {env : Env} {x : D} {l : Option Int} {m : M} : k_xsl_1 F G cx c env x l m = (kPO F G cx c env m).bind (k_xsl_2 x l) := rfl
theorem y_k_xsl_0 {F : Fn} {G : List D} {cx : Option (Nat × XV)} {b : E} {env : Env} {c : E} {x : D} {m : M} : k_xsl_0 F G cx b env c x m = (kPO F G cx b env m).bind (k_xsl_1 F G cx c env x) := rfl
theorem y_k_xtup_0 {ds : List D} {m : M} : k_xtup_0  ds m = .of (tupD ds) m := rfl
theorem y_k_xlst_0 {ds : List D} {m : M} : k_xlst_0  ds m = .of (lstD ds) m := rfl
theorem y_k_xbox_0 {x : D} {m : M} : k_xbox_0  x m = boxM m x := rfl
theorem y_k_xpop_0 {x : D} {m : M} : k_xpop_0  x m = popM m x := rfl
theorem y_k_xpopAt_1 {x : D} {y : D} {m : M} : k_xpopAt_1 x y m = popAtM m x y := rfl
theorem y_k_xpopAt_0 {F : Fn} {G : List D} {cx : Option (Nat × XV)} {b : E} {env : Env} {x : D} {m : M} : k_xpopAt_0 F G cx b env x m = grd (isRef x) ((evE F G cx b env m).bind (k_xpopAt_1 x)) := rfl
theorem y_k_xappend_1 {x : D} {y : D} {m : M} : k_xappend_1 x y m = appendM m y x := rfl
theorem y_k_xappend_0 {F : Fn} {G : List D} {cx : Option (Nat × XV)} {b : E} {env : Env} {x : D} {m : M} : k_xappend_0 F G cx b env x m = grd (isRef x) ((evE F G cx b env m).bind (k_xappend_1 x)) := rfl
theorem y_k_xrev_0 {x : D} {m : M} : k_xrev_0  x m = .of (revD m x) m := rfl
theorem y_k_xgin_0 {t : List (Str × D)} {ng : Bool} {x : D} {m : M} : k_xgin_0 t ng x m = .of (ginD t ng x) m := rfl
theorem y_k_xgix_0 {t : List (Str × D)} {x : D} {m : M} : k_xgix_0 t x m = .of (gixD t x) m := rfl
theorem y_k_xtxt_0 {x : D} {m : M} : k_xtxt_0 x m = .of (txtI x) m := rfl
theorem y_k_xstp_1 {x : D} {y : D} {m : M} : k_xstp_1 x y m = .of (stpD m x y) m := rfl
theorem y_k_xstp_0 {F : Fn} {G : List D} {cx : Option (Nat × XV)} {c : E} {env : Env} {x : D} {m : M} : k_xstp_0 F G cx c env x m = (evE F G cx c env m).bind (k_xstp_1 x) := rfl
theorem y_k_xjoin_1 {x : D} {y : D} {m : M} : k_xjoin_1 x y m = .of (joinD m x y) m := rfl
theorem y_k_xjoin_0 {F : Fn} {G : List D} {cx : Option (Nat × XV)} {b : E} {env : Env} {x : D} {m : M} : k_xjoin_0 F G cx b env x m = grd (isStr x) ((evE F G cx b env m).bind (k_xjoin_1 x)) := rfl
theorem y_k_xfmt_0 {x : D} {m : M} : k_xfmt_0  x m = .of (txtD x) m := rfl
theorem y_k_xisB_0 {bb : Bool} {x : D} {m : M} : k_xisB_0 bb x m = .of (isBD bb x) m := rfl
theorem y_k_xindex_1 {x : D} {y : D} {m : M} : k_xindex_1 x y m = .of (indexD m x y) m := rfl
theorem y_k_xindex_0 {F : Fn} {G : List D} {cx : Option (Nat × XV)} {b : E} {env : Env} {x : D} {m : M} : k_xindex_0 F G cx b env x m = grd (isLs x) ((evE F G cx b env m).bind (k_xindex_1 x)) := rfl
theorem y_k_xcons_1 {x : D} {xs : List D} {m : M} : k_xcons_1 x xs m = .ok (x :: xs) m := rfl
theorem y_k_xcons_0 {F : Fn} {G : List D} {cx : Option (Nat × XV)} {as : Es} {env : Env} {x : D} {m : M} : k_xcons_0 F G cx as env x m = (evA F G cx as env m).bind (k_xcons_1 x) := rfl
theorem y_k_xseq_0 {x : D} {m : M} : k_xseq_0  x m = .of (seqI x) m := rfl
theorem y_k_xrng1_0 {x : D} {m : M} : k_xrng1_0  x m = .of (rng1I x) m := rfl
theorem y_k_xrng2_1 {x : D} {y : D} {m : M} : k_xrng2_1 x y m = .of (rng2I x y) m := rfl
theorem y_k_xrng2_0 {F : Fn} {G : List D} {cx : Option (Nat × XV)} {b : E} {env : Env} {x : D} {m : M} : k_xrng2_0 F G cx b env x m = (evE F G cx b env m).bind (k_xrng2_1 x) := rfl
theorem y_k_xzip_1 {x : D} {y : D} {m : M} : k_xzip_1 x y m = .of (zipD x y) m := rfl
theorem y_k_xzip_0 {F : Fn} {G : List D} {cx : Option (Nat × XV)} {b : E} {env : Env} {x : D} {m : M} : k_xzip_0 F G cx b env x m = (evE F G cx b env m).bind (k_xzip_1 x) := rfl
theorem y_k_xzipS_1 {x : D} {y : D} {m : M} : k_xzipS_1 x y m = .of (zipSD x y) m := rfl
theorem y_k_xzipS_0 {F : Fn} {G : List D} {cx : Option (Nat × XV)} {b : E} {env : Env} {x : D} {m : M} : k_xzipS_0 F G cx b env x m = (evE F G cx b env m).bind (k_xzipS_1 x) := rfl
theorem y_k_xasg_0 {t : Tg} {env : Env} {d : D} {m : M} : k_xasg_0 t env d m = rtE (bindTg m t d env) m := rfl
theorem y_k_xsetix_2 {env : Env} {v : D} {x : D} {y : D} {m : M} : k_xsetix_2 env v x y m = rtM env (setM m v x y) := rfl
theorem y_k_xsetix_1 {F : Fn} {G : List D} {cx : Option (Nat × XV)} {b : E} {env : Env} {v : D} {x : D} {m : M} : k_xsetix_1 F G cx b env v x m = (evE F G cx b env m).st env (k_xsetix_2 env v x) := rfl
theorem y_k_xsetix_0 {F : Fn} {G : List D} {cx : Option (Nat × XV)} {o : E} {env : Env} {b : E} {v : D} {m : M} : k_xsetix_0 F G cx o env b v m = (evE F G cx o env m).st env (k_xsetix_1 F G cx b env v) := rfl
theorem y_k_xex_0 {env : Env} {u0 : D} {m : M} : k_xex_0 env u0 m = some (.nx, env, m) := rfl
theorem y_k_xfor_0 {F : Fn} {G : List D} {Xf : Str → Option (List Str)} {cx : Option (Nat × XV)} {t : Tg} {ss : Ss} {env : Env} {ds : List D} {m : M} : k_xfor_0 F G Xf cx t ss env ds m = forL t (evB F G Xf ss cx) ds env m := rfl
theorem y_k_xret_0 {env : Env} {d : D} {m : M} : k_xret_0 env d m = some (.rt d, env, m) := rfl
theorem y_k_xsetat_1 {env : Env} {cn : Str} {fn : Str} {v : D} {x : D} {m : M} : k_xsetat_1 env cn fn v x m = rtM env (setatM m cn fn v x) := rfl
theorem y_k_xsetat_0 {F : Fn} {G : List D} {cx : Option (Nat × XV)} {o : E} {env : Env} {cn : Str} {fn : Str} {v : D} {m : M} : k_xsetat_0 F G cx o env cn fn v m = (evE F G cx o env m).st env (k_xsetat_1 env cn fn v) := rfl
theorem y_k_xaugat_0 {F : Fn} {G : List D} {cx : Option (Nat × XV)} {o : E} {cn : Str} {fn : Str} {op : BOp} {a : E} {env : Env} {x : D} {m : M} : k_xaugat_0 F G cx o cn fn op a env x m = kAugat F G cx o cn fn op a env x m (attrM m cn fn x) := rfl
theorem y_k_xraise_0 {Xf : Str → Option (List Str)} {cn : Str} {env : Env} {ds : List D} {m : M} : k_xraise_0 Xf cn env ds m = kRaise cn (Xf cn) env ds m := rfl
theorem y_k_ychainT_0 {cp : COp} {y : D} {z : D} {m : M} : k_ychainT_0 cp y z m = .of ((cmpM m cp y z).map .bl) m := rfl
theorem y_k_yaug_0 {op : BOp} {d : D} {env : Env} {i : Nat} {b : D} {m : M} : k_yaug_0 op d env i b m = rtE ((augD op d b).map fun d => env.set i (some d)) m := rfl
theorem y_k_yaugat_0 {env : Env} {op : BOp} {d : D} {cn : Str} {fn : Str} {x : D} {b : D} {m : M} : k_yaugat_0 env op d cn fn x b m = rtM env ((augD op d b).bind fun d => setatM m cn fn d x) := rfl
theorem y_k_xenum_0 {x : D} {m : M} : k_xenum_0 x m = .of (enumI x) m := rfl
theorem y_enumT (h : xs.length ≤ lim) : enumI (.tup xs) = some (enumD xs) := if_pos h
theorem y_enumL (h : xs.length ≤ lim) : enumI (.lst xs) = some (enumD xs) := if_pos h
-- going on
theorem y_andT : kAnd F G cx b env (.bl true) m = evE F G cx b env m := rfl
theorem y_andF : kAnd F G cx b env (.bl false) m = .ok (.bl false) m := rfl
theorem y_orT : kOr F G cx b env (.bl true) m = .ok (.bl true) m := rfl
theorem y_orF : kOr F G cx b env (.bl false) m = evE F G cx b env m := rfl
theorem y_ifT : kIfE F G cx a b env (.bl true) m = evE F G cx a env m := rfl
theorem y_ifF : kIfE F G cx a b env (.bl false) m = evE F G cx b env m := rfl
theorem y_chainT : kChainB F G cx cp c env y m (some true) = (evE F G cx c env m).bind (k_ychainT_0 cp y) := rfl
theorem y_chainF : kChainB F G cx cp c env y m (some false) = .ok (.bl false) m := rfl
theorem y_not : notD (.bl bb) = some (.bl (!bb)) := rfl
theorem y_neg {n : Int} : negD (.int n) = some (.int (-n)) := rfl
theorem y_isB {k : Bool} : isBD bb (.bl k) = some (.bl (decide (k = bb))) := rfl
theorem y_po0 : kPO F G cx .nop env m = .ok none m := rfl
theorem y_poc {n : Int} : kPO F G cx (.con (.int n)) env m = .ok (some n) m := by
  unfold kPO partO isNop
  simp only [Bool.false_eq_true, if_false, x_con, z_ok]
theorem y_pov {j : Nat} : kPO F G cx (.var j) env m = kPart (evE F G cx (.var j) env m) := rfl
theorem y_pob : kPO F G cx (.bin op a b) env m = kPart (evE F G cx (.bin op a b) env m) := rfl
theorem y_pon : kPO F G cx (.neg a) env m = kPart (evE F G cx (.neg a) env m) := rfl
theorem y_poi : kPO F G cx (.ix a b) env m = kPart (evE F G cx (.ix a b) env m) := rfl
theorem y_pol {q : BI} : kPO F G cx (.bi q as) env m = kPart (evE F G cx (.bi q as) env m) := rfl
theorem y_poa : kPO F G cx (.attr a cn fn) env m = kPart (evE F G cx (.attr a cn fn) env m) := rfl
theorem y_part {n : Int} : kPart (.ok (.int n) m) = .ok (some n) m := rfl
theorem lim10 {n : Nat} (h : n ≤ 100000) : n ≤ lim := Nat.le_trans h (by decide)
theorem y_tup (h : xs.length ≤ lim) : tupD xs = some (.tup xs) := if_pos h
theorem y_lst (h : xs.length ≤ lim) : lstD xs = some (.lst xs) := if_pos h
theorem y_tup0 : tupD [] = some (.tup []) := y_tup (lim10 (by simp))
theorem y_tup1 : tupD [x] = some (.tup [x]) := y_tup (lim10 (by simp))
theorem y_tup2 : tupD [x, y] = some (.tup [x, y]) := y_tup (lim10 (by simp))
theorem y_tup3 : tupD [x, y, d] = some (.tup [x, y, d]) := y_tup (lim10 (by simp))
theorem y_tup4 {z : D} : tupD [x, y, d, z] = some (.tup [x, y, d, z]) := y_tup (lim10 (by simp))
theorem y_tup5 {z z1 : D} : tupD [x, y, d, z, z1] = some (.tup [x, y, d, z, z1]) := y_tup (lim10 (by simp))
theorem y_tup6 {z z1 z2 : D} : tupD [x, y, d, z, z1, z2] = some (.tup [x, y, d, z, z1, z2]) := y_tup (lim10 (by simp))
theorem y_lst0 : lstD [] = some (.lst []) := y_lst (lim10 (by simp))
theorem y_lst1 : lstD [x] = some (.lst [x]) := y_lst (lim10 (by simp))
theorem y_lst2 : lstD [x, y] = some (.lst [x, y]) := y_lst (lim10 (by simp))
theorem y_lst3 : lstD [x, y, d] = some (.lst [x, y, d]) := y_lst (lim10 (by simp))
theorem y_lst4 {z : D} : lstD [x, y, d, z] = some (.lst [x, y, d, z]) := y_lst (lim10 (by simp))
theorem y_lst5 {z z1 : D} : lstD [x, y, d, z, z1] = some (.lst [x, y, d, z, z1]) := y_lst (lim10 (by simp))
theorem y_lst6 {z z1 z2 : D} : lstD [x, y, d, z, z1, z2] = some (.lst [x, y, d, z, z1, z2]) := y_lst (lim10 (by simp))
theorem y_lst7 {z z1 z2 z3 : D} : lstD [x, y, d, z, z1, z2, z3] = some (.lst [x, y, d, z, z1, z2, z3]) := y_lst (lim10 (by simp))
theorem y_lst8 {z z1 z2 z3 z4 : D} : lstD [x, y, d, z, z1, z2, z3, z4] = some (.lst [x, y, d, z, z1, z2, z3, z4]) := y_lst (lim10 (by simp))
theorem w_0 : wipeE env (ownN []) = env := rfl
theorem w_1 {z : Str} {own : List (Str × Nat)} : wipeE env (ownN ((z, i) :: own)) = (wipeE env (ownN own)).set i none := rfl
theorem y_comp {own : List (Str × Nat)} (h : xs.length ≤ lim) : kComp F G cx own t a env xs m = kLc (compL t (wipeE env (ownN own)) (evE F G cx a) xs m) := if_pos h
theorem y_compI {own : List (Str × Nat)} (h : xs.length ≤ lim) : kCompI F G cx own t c a env xs m = kLc (compLI t (wipeE env (ownN own)) (evE F G cx c) (evE F G cx a) xs m) := if_pos h
theorem y_dcomp {own : List (Str × Nat)} (h : xs.length ≤ lim) : kDcomp F G cx own t b a env xs m = kDc m.length (dcL t (wipeE env (ownN own)) m.length (evE F G cx b) (evE F G cx a) xs (m ++ [.dct []])) := if_pos h
theorem y_dc {l : Nat} : kDc l (some m) = .ok (.dic l) m := rfl
theorem v_gin {t : List (Str × D)} {z : Str} : ginD t false (.str z) = some (.bl (look t z).isSome) := rfl
theorem v_gnotin {t : List (Str × D)} {z : Str} : ginD t true (.str z) = some (.bl (!(look t z).isSome)) := rfl
theorem v_gix {t : List (Str × D)} {z : Str} : gixD t (.str z) = look t z := rfl
theorem z_lookN {z : Str} : look [] z = none := rfl
theorem z_lookC {k z : Str} {v : D} {r : List (Str × D)} : look ((k, v) :: r) z = if k = z then some v else look r z := rfl
theorem z_isS {d : D} : (some d).isSome = true := rfl
theorem z_isN : (none : Option D).isSome = false := rfl
theorem v_inS {x z : Str} : cmpM m .isin (.str x) (.str z) = signIn z (.str x) := rfl
theorem v_notinS {x z : Str} : cmpM m .notin (.str x) (.str z) = (signIn z (.str x)).map (!·) := rfl
theorem v_stp1 : stpD m (.lst xs) (.int 1) = some (.lst xs) := rfl
theorem v_stpN : stpD m (.lst xs) (.int (-1)) = some (.lst xs.reverse) := rfl
theorem y_compR0 {own : List (Str × Nat)} : kCompR0 F G cx own t a env x m = kCompR F G cx own t a env m (lstAt m x) := rfl
theorem y_compIR0 {own : List (Str × Nat)} : kCompIR0 F G cx own t c a env x m = kCompIR F G cx own t c a env m (lstAt m x) := rfl
theorem y_forR0 : kForR0 F G Xf cx t ss env x m = kForR F G Xf cx t ss env m (lstAt m x) := rfl
theorem v_lstAt {l : Nat} (h : m[l]? = some (.lst xs)) : lstAt m (.ref l) = some (l, xs) := by simp only [lstAt, h]
theorem v_minK {i : Nat} {ds : List D} {ns : List Int} {z : D} (h0 : 0 < ds.length) (ht : ds.all isTupD = true) (hk : minKs (evE F G cx b) env i m ds = some ns) (hz : ds[minBest ns]? = some z) : kMinK F G cx i b env (.lst ds) m = .ok z m := by
  simp only [kMinK, minKM, h0, ht, decide_true, Bool.and_true, if_true, hk, Option.bind_some, hz, Rz.of]
theorem v_comp2 {own : List (Str × Nat)} {vs1 : List Nat} {t1 : Tg} {ys : List D} {m' : M} (h : xs.length ≤ lim) (hc : comp2L t t1 vs1 (wipeE env (ownN own)) (evE F G cx b) (evE F G cx c) (evE F G cx a) xs m = some (ys, m')) (hl : ys.length ≤ lim) : kComp2 F G cx own t vs1 t1 b c a env xs m = .ok (.lst ys) m' := by
  simp only [kComp2, h, if_true, hc, kLc2, hl]
theorem v_sortK {i n : Nat} {kds : List D} (h : n ≤ 1000) (hk : keysM (evE F G cx b) env i m n = some kds) (ok : keysOk kds = true) : kSortK F G cx i b env (.int (n : Int)) m = .ok (.lst (sortKeyD kds)) m := by
  have h0 : (decide ((0 : Int) ≤ (n : Int)) && decide ((n : Int) ≤ 1000)) = true := by simp; omega
  simp only [kSortK, sortKM, h0, if_true, Int.toNat_natCast, hk, Option.bind_some, ok, Option.map_some, Rz.of]
/-- a comprehension over a list of the memory that leaves all as it is -/
theorem v_compR {own : List (Str × Nat)} {l : Nat} {ys : List D} {m' : M} (h : xs.length ≤ lim) (hc : compL t (wipeE env (ownN own)) (gdE l xs (evE F G cx a)) xs m = some (ys, m')) (he : m'[l]? = some (.lst xs)) : kCompR F G cx own t a env m (some (l, xs)) = .ok (.lst ys) m' := by
  show (if xs.length ≤ lim then endL l xs (compL t (wipeE env (ownN own)) (gdE l xs (evE F G cx a)) xs m) else .no) = _
  rw [if_pos h, hc]
  exact if_pos he
theorem v_compIR {own : List (Str × Nat)} {l : Nat} {ys : List D} {m' : M} (h : xs.length ≤ lim) (hc : compLI t (wipeE env (ownN own)) (gdE l xs (evE F G cx c)) (evE F G cx a) xs m = some (ys, m')) (he : m'[l]? = some (.lst xs)) : kCompIR F G cx own t c a env m (some (l, xs)) = .ok (.lst ys) m' := by
  show (if xs.length ≤ lim then endL l xs (compLI t (wipeE env (ownN own)) (gdE l xs (evE F G cx c)) (evE F G cx a) xs m) else .no) = _
  rw [if_pos h, hc]
  exact if_pos he
theorem v_gdE {te : Env → M → O1} {l : Nat} (h : m[l]? = some (.lst xs)) : gdE l xs te env m = te env m := if_pos h
theorem v_gdR {tb : Env → M → R} {l : Nat} (h : m[l]? = some (.lst xs)) : gdR l xs tb env m = tb env m := if_pos h
theorem y_lc : kLc (some (xs, m)) = .ok (.lst xs) m := rfl
theorem y_box : boxM m (.lst xs) = .ok (.ref m.length) (m ++ [.lst xs]) := rfl
theorem y_isRef {l : Nat} : isRef (.ref l) = true := rfl
theorem y_isStr {z : Str} : isStr (.str z) = true := rfl
theorem y_isDic {l : Nat} : isDic (.dic l) = true := rfl
theorem y_isLs : isLs (.lst xs) = true := rfl
theorem y_isLsR {l : Nat} : isLs (.ref l) = true := rfl
theorem y_fstr : kFstr (.ok xs m) = .of ((gluD Str.empty xs).map .str) m := rfl
theorem y_seqT : seqI (.tup xs) = some xs := rfl
theorem y_seqL : seqI (.lst xs) = some xs := rfl
theorem y_rng1 {n : Int} (h : rgOk n = true) : rng1I (.int n) = some (rangeD 0 n.toNat) := if_pos h
theorem y_rng2 {n k : Int} (h : rgOk n = true) (h' : rgOk k = true) : rng2I (.int n) (.int k) = some (rangeD n (k - n).toNat) := if_pos (by rw [h, h']; rfl)
theorem y_listRg {n : Int} (h : rgOk n = true) (h' : n.toNat ≤ lim) : listRgD (.int n) = some (.lst (rangeD 0 n.toNat)) := if_pos (by rw [h]; simp [h'])
theorem y_zipT {ys : List D} : zipD (.tup xs) (.tup ys) = some (List.zipWith (fun a b => .tup [a, b]) xs ys) := rfl
theorem y_zipL {ys : List D} : zipD (.lst xs) (.lst ys) = some (List.zipWith (fun a b => .tup [a, b]) xs ys) := rfl
theorem v_zipST {ys : List D} (h : xs.length = ys.length) : zipSD (.tup xs) (.tup ys) = some (List.zipWith (fun a b => .tup [a, b]) xs ys) := if_pos h
theorem y_rtE : rtE (some e') m = some (.nx, e', m) := rfl
theorem y_rtM : rtM env (some m) = some (.nx, env, m) := rfl
theorem y_aug : kAug F G cx i op a env m (some (some d)) = (evE F G cx a env m).st env (k_yaug_0 op d env i) := rfl
theorem y_augat : kAugat F G cx o cn fn op a env x m (some d) = (evE F G cx a env m).st env (k_yaugat_0 env op d cn fn x) := rfl
theorem v_augA {n k : Int} : augD .add (.int n) (.int k) = some (.int (n + k)) := rfl
theorem v_augS {n k : Int} : augD .sub (.int n) (.int k) = some (.int (n - k)) := rfl
theorem y_ifST {sa sb : Ss} : kIfS F G Xf cx sa sb env (.bl true) m = evB F G Xf sa cx env m := rfl
theorem y_ifSF {sa sb : Ss} : kIfS F G Xf cx sa sb env (.bl false) m = evB F G Xf sb cx env m := rfl
theorem y_nx : kSS F G Xf cx ss (some (.nx, env, m)) = evB F G Xf ss cx env m := rfl
theorem y_rt : kSS F G Xf cx ss (some (.rt x, env, m)) = some (.rt x, env, m) := rfl
theorem y_bk : kSS F G Xf cx ss (some (.bk, env, m)) = some (.bk, env, m) := rfl
theorem y_ct : kSS F G Xf cx ss (some (.ct, env, m)) = some (.ct, env, m) := rfl
theorem y_xc {xv : XV} : kSS F G Xf cx ss (some (.xc xv, env, m)) = some (.xc xv, env, m) := rfl
theorem y_tnx {hs : Hs} : kTry F G Xf cx hs ss (some (.nx, env, m)) = evB F G Xf ss cx env m := rfl
theorem y_trt {hs : Hs} : kTry F G Xf cx hs ss (some (.rt x, env, m)) = some (.rt x, env, m) := rfl
theorem y_tbk {hs : Hs} : kTry F G Xf cx hs ss (some (.bk, env, m)) = some (.bk, env, m) := rfl
theorem y_tct {hs : Hs} : kTry F G Xf cx hs ss (some (.ct, env, m)) = some (.ct, env, m) := rfl
theorem y_txc {hs : Hs} {xv : XV} : kTry F G Xf cx hs ss (some (.xc xv, env, m)) = evH F G Xf hs xv cx env m := rfl
theorem y_hN {xv : XV} : kH F G Xf none ss xv env m = outH none (evB F G Xf ss none env m) := rfl
theorem y_hS {xv : XV} (h : i < env.length) : kH F G Xf (some i) ss xv env m = outH (some i) (evB F G Xf ss (some (i, xv)) (env.set i none) m) := if_pos (decide_eq_true h)
theorem y_oN {fl : Fl} (h : ∀ x, fl ≠ .xc x) : outH none (some (fl, env, m)) = some (fl, env, m) := by cases fl <;> first | rfl | exact absurd rfl (h _)
theorem y_oNn : outH none (some (.nx, env, m)) = some (.nx, env, m) := rfl
theorem y_oNr : outH none (some (.rt x, env, m)) = some (.rt x, env, m) := rfl
theorem y_oNb : outH none (some (.bk, env, m)) = some (.bk, env, m) := rfl
theorem y_oNc : outH none (some (.ct, env, m)) = some (.ct, env, m) := rfl
theorem y_oSn : outH (some i) (some (.nx, env, m)) = some (.nx, env.set i none, m) := rfl
theorem y_oSr : outH (some i) (some (.rt x, env, m)) = some (.rt x, env.set i none, m) := rfl
theorem y_oSb : outH (some i) (some (.bk, env, m)) = some (.bk, env.set i none, m) := rfl
theorem y_oSc : outH (some i) (some (.ct, env, m)) = some (.ct, env.set i none, m) := rfl
theorem y_raise {fs : List Str} (h : fs.length = xs.length) : kRaise cn (some fs) env xs m = some (.xc ⟨cn, mkX fs xs⟩, env, m) := if_pos h
theorem y_raise1 {g : Str} : kRaise cn (some [g]) env [x] m = some (.xc ⟨cn, [(g, x)]⟩, env, m) := rfl
theorem y_raise2 {g g' : Str} : kRaise cn (some [g, g']) env [x, y] m = some (.xc ⟨cn, [(g', y), (g, x)]⟩, env, m) := rfl
theorem y_xat {xv : XV} : xatD i fn (some (i, xv)) = fget fn xv.fs := if_pos rfl
theorem y_fget {fs : List (Str × D)} : fget fn ((fn, d) :: fs) = some d := if_pos rfl
theorem y_fnR : endR (some (.rt x, env, m)) = .ok x m := rfl
theorem y_fnN : endR (some (.nx, env, m)) = .ok .non m := rfl
theorem y_fnX {xv : XV} : endR (some (.xc xv, env, m)) = .ex xv m := rfl
theorem y_nm : bindTg m (.nm i) d env = some (env.set i (some d)) := by rw [bindTg]
theorem y_tp {ts : Tgs} : bindTg m (.tp ts) (.tup xs) env = bindTgs m ts xs env := by rw [bindTg]
theorem y_tgn : bindTgs m .nil [] env = some env := by rw [bindTgs]
def kTgs (m : M) (ts : Tgs) (xs : List D) (r : Option Env) : Option Env := r.bind fun e => bindTgs m ts xs e
theorem y_tgc {ts : Tgs} : bindTgs m (.cons t ts) (d :: xs) env = kTgs m ts xs (bindTg m t d env) := by rw [bindTgs]; rfl
theorem y_tgk {ts : Tgs} : kTgs m ts xs (some env) = bindTgs m ts xs env := rfl
-- values
theorem v_add {n k : Int} : bopD m .add (.int n) (.int k) = some (.int (n + k)) := rfl
theorem v_sub {n k : Int} : bopD m .sub (.int n) (.int k) = some (.int (n - k)) := rfl
theorem v_mul {n k : Int} (h : mulOk n k = true) : bopD m .mul (.int n) (.int k) = some (.int (n * k)) := (if_pos h : (if mulOk n k = true then some (D.int (n * k)) else none) = _)
theorem v_fdiv {n k : Int} (h : divOk k = true) : bopD m .fdiv (.int n) (.int k) = some (.int (n / k)) := (if_pos h : (if divOk k = true then some (D.int (n / k)) else if (decide (k < 0) && decide (k.natAbs.log2 < 9000)) = true then some (D.int (n.fdiv k)) else none) = _)
theorem v_mod {n k : Int} (h : 0 < k) : bopD m .mod (.int n) (.int k) = some (.int (n % k)) := (if_pos h : (if 0 < k then some (D.int (n % k)) else if k < 0 then some (D.int (n.fmod k)) else none) = _)
theorem v_pow {n k : Int} (h : powOk n k = true) : bopD m .pow (.int n) (.int k) = some (.int (n ^ k.toNat)) := (if_pos h : (if powOk n k = true then some (D.int (n ^ k.toNat)) else if powOk2 n k then some (D.int (n ^ k.toNat)) else none) = _)
theorem v_pow2 {n k : Int} (h : powOk2 n k = true) : bopD m .pow (.int n) (.int k) = some (.int (n ^ k.toNat)) := by
  show (if powOk n k = true then some (D.int (n ^ k.toNat)) else if powOk2 n k then some (D.int (n ^ k.toNat)) else none) = _
  rw [if_pos h]; split <;> rfl
theorem v_shl {n k : Int} (h : powOk n k = true) : bopD m .shl (.int n) (.int k) = some (.int (n * 2 ^ k.toNat)) := (if_pos h : (if powOk n k = true then some (D.int (n * 2 ^ k.toNat)) else none) = _)
theorem v_catT {xs ys : List D} (h : xs.length + ys.length ≤ lim) : bopD m .add (.tup xs) (.tup ys) = some (.tup (xs ++ ys)) := (if_pos h : (if xs.length + ys.length ≤ lim then some (D.tup (xs ++ ys)) else none) = _)
theorem v_catL {xs ys : List D} (h : xs.length + ys.length ≤ lim) : bopD m .add (.lst xs) (.lst ys) = some (.lst (xs ++ ys)) := (if_pos h : (if xs.length + ys.length ≤ lim then some (D.lst (xs ++ ys)) else none) = _)
theorem v_catS {z w : Str} (h : z.length + w.length ≤ lim) : bopD m .add (.str z) (.str w) = some (.str (z ++ w)) := (if_pos h : (if z.length + w.length ≤ lim then some (D.str (z ++ w)) else none) = _)
theorem v_rep {xs : List D} {k : Int} (h0 : 0 ≤ k) (h1 : k < 2 ^ 63) (h : xs.length * k.toNat ≤ lim) : bopD m .mul (.lst xs) (.int k) = some (.lst (List.replicate k.toNat xs).flatten) := by
  have h2 : small k = true := by simp only [small, Bool.and_eq_true, decide_eq_true_eq]; omega
  have h3 : (small k && decide (-(2 ^ 63) ≤ k) && decide (k < 2 ^ 63) && decide (xs.length * k.toNat ≤ lim)) = true := by simp only [h2, Bool.and_eq_true, decide_eq_true_eq, true_and]; omega
  exact (if_pos h3 : (if (small k && decide (-(2 ^ 63) ≤ k) && decide (k < 2 ^ 63) && decide (xs.length * k.toNat ≤ lim)) = true then some (D.lst (List.replicate k.toNat xs).flatten) else none) = _)
theorem v_eqI {n k : Int} : cmpM m .eq (.int n) (.int k) = some (decide (n = k)) := rfl
theorem v_eqS {n k : Str} : cmpM m .eq (.str n) (.str k) = some (decide (n = k)) := rfl
theorem v_eqB {n k : Bool} : cmpM m .eq (.bl n) (.bl k) = some (n == k) := rfl
theorem v_neI {n k : Int} : cmpM m .ne (.int n) (.int k) = some (!decide (n = k)) := rfl
theorem v_neS {n k : Str} : cmpM m .ne (.str n) (.str k) = some (!decide (n = k)) := rfl
theorem v_neB {n k : Bool} : cmpM m .ne (.bl n) (.bl k) = some (!(n == k)) := rfl
theorem v_lt {n k : Int} : cmpM m .lt (.int n) (.int k) = some (decide (n < k)) := rfl
theorem v_le {n k : Int} : cmpM m .le (.int n) (.int k) = some (decide (n ≤ k)) := rfl
theorem v_gt {n k : Int} : cmpM m .gt (.int n) (.int k) = some (decide (k < n)) := rfl
theorem v_ge {n k : Int} : cmpM m .ge (.int n) (.int k) = some (decide (k ≤ n)) := rfl
theorem v_lenT : biD m .len [.tup xs] = some (.int xs.length) := rfl
theorem v_lenL : biD m .len [.lst xs] = some (.int xs.length) := rfl
theorem v_lenF : biD m .len [.frz xs] = some (.int xs.length) := rfl
theorem v_tupL : biD m .tuple [.lst xs] = some (.tup xs) := rfl
theorem v_tupT : biD m .tuple [.tup xs] = some (.tup xs) := rfl
theorem v_listL : biD m .list [.lst xs] = some (.lst xs) := rfl
theorem v_listT : biD m .list [.tup xs] = some (.lst xs) := rfl
theorem v_intI {n : Int} : biD m .int [.int n] = some (.int n) := rfl
theorem v_intB : biD m .int [.bl bb] = some (.int (if bb then 1 else 0)) := rfl
theorem v_max {n k : Int} : biD m .max2 [.int n, .int k] = some (.int (if k > n then k else n)) := rfl
theorem v_min {n k : Int} : biD m .min2 [.int n, .int k] = some (.int (if k < n then k else n)) := rfl
theorem v_ixT {n : Int} : ixM m (.tup xs) (.int n) = atD xs n := rfl
theorem v_ixL {n : Int} : ixM m (.lst xs) (.int n) = atD xs n := rfl
theorem v_ixR {l : Nat} {n : Int} (h : m[l]? = some (.lst xs)) : ixM m (.ref l) (.int n) = atD xs n := by
  show ixD m (.ref l) (.int n) = _
  simp only [ixD, deref, h]
theorem v_lenR {l : Nat} (h : m[l]? = some (.lst xs)) : biD m .len [.ref l] = some (.int xs.length) := by
  simp only [biD, lenD, deref, h, Option.map_some]
theorem v_tupR {l : Nat} (h : m[l]? = some (.lst xs)) : biD m .tuple [.ref l] = some (.tup xs) := by
  simp only [biD, seqOf, deref, h, Option.map_some]
theorem v_setR {l j : Nat} {n : Int} (h : m[l]? = some (.lst xs)) (hj : ixAt xs.length n = some j) : setM m x (.ref l) (.int n) = some (m.set l (.lst (xs.set j x))) := by
  simp only [setM, h, hj]
theorem v_upR {l : Nat} {ts : Tgs} (h : m[l]? = some (.lst xs)) : bindTg m (.up ts) (.ref l) env = bindTgs m ts xs env := by
  simp only [bindTg, deref, h]
theorem v_appR {l : Nat} (h : m[l]? = some (.lst xs)) (hl : xs.length < lim) : appendM m y (.ref l) = .ok .non (m.set l (.lst (xs ++ [y]))) := by
  simp only [appendM, h, hl, if_true]
theorem v_attr {l : Nat} {fs : List (Str × D)} (h : m[l]? = some (.ins cn fs)) : attrM m cn fn (.obj l) = fget fn fs := by
  simp only [attrM, h, if_true]
theorem v_setat {l : Nat} {fs : List (Str × D)} (h : m[l]? = some (.ins cn fs)) (hl : fs.length < 900) : setatM m cn fn d (.obj l) = some (m.set l (.ins cn (fput fn d fs))) := by
  simp only [setatM, h, hl, and_self, if_true]
theorem ixAt_nat {n j : Nat} (h : j < n) : ixAt n (j : Int) = some j := by
  unfold ixAt
  rw [if_pos (by omega), if_pos (by omega)]
  simp
theorem atD_nat {j : Nat} (h : xs[j]? = some x) : atD xs (j : Int) = some x := by
  unfold atD
  rw [ixAt_nat (List.getElem?_eq_some_iff.mp h).1]
  exact h
theorem atD_ints {l : List Int} {j : Nat} (h : j < l.length) : atD (l.map .int) (j : Int) = some (.int l[j]) := atD_nat (by simp [h])
theorem v_at0 : atD (x :: xs) 0 = some x := atD_nat (j := 0) rfl
theorem v_at1 : atD (x :: y :: xs) 1 = some y := atD_nat (j := 1) rfl
theorem v_at2 : atD (x :: y :: d :: xs) 2 = some d := atD_nat (j := 2) rfl
theorem v_at3 {z : D} : atD (x :: y :: d :: z :: xs) 3 = some z := atD_nat (j := 3) rfl
theorem v_slF {lo hi : Option Int} : slD m (.frz xs) lo hi = some (.lst (cutD xs lo hi)) := rfl
theorem v_slL {lo hi : Option Int} : slD m (.lst xs) lo hi = some (.lst (cutD xs lo hi)) := rfl
theorem v_slT {lo hi : Option Int} : slD m (.tup xs) lo hi = some (.tup (cutD xs lo hi)) := rfl
theorem v_slS {z : Str} {lo hi : Option Int} (h : z.length ≤ lim) : slD m (.str z) lo hi = some (.str (cutT z lo hi)) := (if_pos h : (if z.length ≤ lim then some (D.str (cutT z lo hi)) else none) = _)
theorem v_revS {z : Str} (h : z.length ≤ lim) : revD m (.str z) = some (.str (revT z)) := (if_pos h : (if z.length ≤ lim then some (D.str (revT z)) else none) = _)
theorem v_revL : revD m (.lst xs) = some (.lst xs.reverse) := rfl
theorem v_isTT : isiD (.tup xs) .tuple = some true := rfl
theorem v_isTI : isiD (.tup xs) .int = some false := rfl
theorem v_isTB : isiD (.tup xs) .bool = some false := rfl
theorem v_isTS : isiD (.tup xs) .str = some false := rfl
theorem v_isIT {n : Int} : isiD (.int n) .tuple = some false := rfl
theorem v_isII {n : Int} : isiD (.int n) .int = some true := rfl
theorem v_isIB {n : Int} : isiD (.int n) .bool = some false := rfl
theorem v_isIS {n : Int} : isiD (.int n) .str = some false := rfl
theorem v_isBT : isiD (.bl bb) .tuple = some false := rfl
theorem v_isBI : isiD (.bl bb) .int = some true := rfl
theorem v_isBB : isiD (.bl bb) .bool = some true := rfl
theorem v_isBS : isiD (.bl bb) .str = some false := rfl
theorem v_isST {z : Str} : isiD (.str z) .tuple = some false := rfl
theorem v_isSI {z : Str} : isiD (.str z) .int = some false := rfl
theorem v_isSB {z : Str} : isiD (.str z) .bool = some false := rfl
theorem v_isSS {z : Str} : isiD (.str z) .str = some true := rfl
theorem v_isN {q : Ty} : isiD .non q = some false := by cases q <;> rfl
theorem comp_map {te : Env → M → O1} (f : D → D) (l : List D) (h : ∀ x, x ∈ l → ∃ e', bindTg m t x env = some e' ∧ te e' m = .ok (f x) m) : compL t env te l m = some (l.map f, m) := by
  induction l with
  | nil => rfl
  | cons d r ih =>
    obtain ⟨e', h1, h2⟩ := h d List.mem_cons_self
    rw [compL, h1, Option.bind_some, h2]
    show ((compL t env te r m).bind fun q => some (f d :: q.1, q.2)) = _
    rw [ih fun x hx => h x (List.mem_cons_of_mem _ hx)]
    rfl
theorem comp_filter {tc te : Env → M → O1} (g : D → Bool) (f : D → D) (l : List D) (h : ∀ x, x ∈ l → ∃ e', bindTg m t x env = some e' ∧ tc e' m = .ok (.bl (g x)) m ∧ (g x = true → te e' m = .ok (f x) m)) : compLI t env tc te l m = some ((l.filter g).map f, m) := by
  induction l with
  | nil => rfl
  | cons d r ih =>
    obtain ⟨e', h1, h2, h3⟩ := h d List.mem_cons_self
    have ih := ih fun x hx => h x (List.mem_cons_of_mem _ hx)
    rw [compLI, h1, Option.bind_some, h2]
    cases hg : g d with
    | true =>
      show ((calmR (te e' m)).bind fun p => (compLI t env tc te r p.2).bind fun q => some (p.1 :: q.1, q.2)) = _
      rw [h3 hg]
      show ((compLI t env tc te r m).bind fun q => some (f d :: q.1, q.2)) = _
      rw [ih, List.filter_cons_of_pos hg]
      rfl
    | false =>
      show compLI t env tc te r m = _
      rw [ih, List.filter_cons_of_neg (by simp [hg])]
theorem y_lcomp {te : Env → M → O1} : compL t env te [] m = some ([], m) := rfl
theorem y_for0 {tb : Env → M → R} : forL t tb [] env m = some (.nx, env, m) := rfl
theorem rgOk_of {n : Int} (h0 : 0 ≤ n) (h1 : n < 2 ^ 62) : rgOk n = true := by simp only [rgOk, Bool.and_eq_true, decide_eq_true_eq]; omega
/-- a loop over a list of values, by an invariant -/
theorem for_ok {tb : Env → M → R} (I : Nat → Env → M → Prop) (l : List D) (env : Env) (m : M) (h0 : I 0 env m)
    (hs : ∀ i (h : i < l.length) env m, I i env m → ∃ e' env' m', bindTg m t l[i] env = some e' ∧ tb e' m = some (.nx, env', m') ∧ I (i + 1) env' m') :
    ∃ env' m', forL t tb l env m = some (.nx, env', m') ∧ I l.length env' m' := by
  suffices ∀ (r : List D) (i : Nat) (env : Env) (m : M), i + r.length = l.length → l.drop i = r → I i env m → ∃ env' m', forL t tb r env m = some (.nx, env', m') ∧ I l.length env' m' from this l 0 env m (by simp) rfl h0
  intro r
  induction r with
  | nil => intro i env m hi _ hI; exact ⟨env, m, rfl, by simp at hi; rw [← hi]; exact hI⟩
  | cons d r ih =>
    intro i env m hi hd hI
    have hlt : i < l.length := by simp at hi; omega
    have hdd : l[i] = d ∧ l.drop (i + 1) = r := by
      rw [List.drop_eq_getElem_cons hlt] at hd
      injection hd with a b
      exact ⟨a, b⟩
    obtain ⟨e', env', m', hb, ht, hI'⟩ := hs i hlt env m hI
    rw [hdd.1] at hb
    obtain ⟨env2, m2, h2, h3⟩ := ih (i + 1) env' m' (by simp at hi; omega) hdd.2 hI'
    refine ⟨env2, m2, ?_, h3⟩
    rw [forL, hb, Option.bind_some, ht, Option.bind_some]
    exact h2
/-- a comprehension, by an invariant -/
theorem comp_ok {te : Env → M → O1} (I : Nat → List D → M → Prop) (l : List D) (env : Env) (m : M) (h0 : I 0 [] m)
    (hs : ∀ i (h : i < l.length) acc m, I i acc m → ∃ e' v m', bindTg m t l[i] env = some e' ∧ te e' m = .ok v m' ∧ I (i + 1) (acc ++ [v]) m') :
    ∃ vs m', compL t env te l m = some (vs, m') ∧ I l.length vs m' := by
  suffices ∀ (r : List D) (i : Nat) (acc : List D) (m : M), i + r.length = l.length → l.drop i = r → I i acc m → ∃ vs m', compL t env te r m = some (vs, m') ∧ I l.length (acc ++ vs) m' by
    simpa using this l 0 [] m (by simp) rfl h0
  intro r
  induction r with
  | nil => intro i acc m hi _ hI; exact ⟨[], m, rfl, by simp at hi; rw [← hi]; simpa using hI⟩
  | cons d r ih =>
    intro i acc m hi hd hI
    have hlt : i < l.length := by simp at hi; omega
    have hdd : l[i] = d ∧ l.drop (i + 1) = r := by
      rw [List.drop_eq_getElem_cons hlt] at hd
      injection hd with a b
      exact ⟨a, b⟩
    obtain ⟨e', v, m', hb, ht, hI'⟩ := hs i hlt acc m hI
    rw [hdd.1] at hb
    obtain ⟨vs, m2, h2, h3⟩ := ih (i + 1) (acc ++ [v]) m' (by simp at hi; omega) hdd.2 hI'
    refine ⟨v :: vs, m2, ?_, by simpa using h3⟩
    rw [compL, hb, Option.bind_some, ht]
    show ((compL t env te r m').bind fun q => some (v :: q.1, q.2)) = _
    rw [h2]
    rfl
theorem rangeD_len {lo : Int} {n : Nat} : (rangeD lo n).length = n := by simp [rangeD]
theorem rangeD_get {lo : Int} {n i : Nat} {h : i < (rangeD lo n).length} : (rangeD lo n)[i] = .int (lo + (i : Int)) := by simp [rangeD]
/-- a loop that gives back the first answer -/
theorem for_first {tb : Env → M → R} (f : D → Option D) (I : Env → Prop) : ∀ (l : List D) (env : Env), I env →
    (∀ x, x ∈ l → ∀ env, I env → ∃ e', bindTg m t x env = some e' ∧ match f x with
      | none => ∃ env', tb e' m = some (.nx, env', m) ∧ I env'
      | some v => ∃ env', tb e' m = some (.rt v, env', m)) →
    match l.findSome? f with
      | none => ∃ env', forL t tb l env m = some (.nx, env', m) ∧ I env'
      | some v => ∃ env', forL t tb l env m = some (.rt v, env', m) := by
  intro l
  induction l with
  | nil => intro env h _; exact ⟨env, rfl, h⟩
  | cons x l ih =>
    intro env h hs
    obtain ⟨e', hb, hx⟩ := hs x List.mem_cons_self env h
    rw [List.findSome?_cons]
    cases hf : f x with
    | some v =>
      rw [hf] at hx
      obtain ⟨env', ht⟩ := hx
      exact ⟨env', by rw [forL, hb, Option.bind_some, ht, Option.bind_some]⟩
    | none =>
      rw [hf] at hx
      obtain ⟨env', ht, h'⟩ := hx
      have ih := ih env' h' fun y hy => hs y (List.mem_cons_of_mem _ hy)
      have e : forL t tb (x :: l) env m = forL t tb l env' m := by rw [forL, hb, Option.bind_some, ht, Option.bind_some]
      rw [e]
      exact ih
theorem while_ok {tc : Env → M → O1} {tb : Env → M → R} (I : Nat → Env → M → Prop) (P : R → Prop)
    (st : ∀ k env m, I k env m → (∃ m1, tc env m = .ok (.bl false) m1 ∧ P (some (.nx, env, m1))) ∨ (∃ m1 e2 m2, tc env m = .ok (.bl true) m1 ∧ tb env m1 = some (.nx, e2, m2) ∧ ∃ j, j < k ∧ I j e2 m2) ∨
      ∃ m1 d e2 m2, tc env m = .ok (.bl true) m1 ∧ tb env m1 = some (.rt d, e2, m2) ∧ P (some (.rt d, e2, m2))) :
    ∀ (k n : Nat) (env : Env) (m : M), I k env m → k < n → P (whileL tc tb n env m) := by
  intro k
  induction k using Nat.strongRecOn with
  | ind k ih =>
    intro n env m hI hk
    match n, hk with
    | n + 1, hk =>
      rcases st k env m hI with ⟨m1, h1, h2⟩ | ⟨m1, e2, m2, h1, h2, j, hj, hI'⟩ | ⟨m1, d, e2, m2, h1, h2, h3⟩
      · rw [whileL, h1]; exact h2
      · rw [whileL, h1]
        show P ((tb env m1).bind _)
        rw [h2]
        exact ih j hj n e2 m2 hI' (by omega)
      · rw [whileL, h1]
        show P ((tb env m1).bind _)
        rw [h2]
        exact h3
end
/-! ## what is kept over calls -/
theorem kept_refl (m : M) : keptB m m = true := by
  unfold keptB
  simp
theorem kept_app {m g : M} : keptB m (m ++ g) = true := by
  unfold keptB
  simp only [Bool.and_eq_true, decide_eq_true_eq, List.all_eq_true, Bool.or_eq_true, List.length_append]
  refine ⟨by omega, fun i hi => .inl ?_⟩
  exact List.getElem?_append_left (List.mem_range.mp hi)
theorem y_gc {m : M} {d : D} (h : below m.length d = true) : gcD m (.ok d m) = .ok d m := by
  show (if (keptB m m && below m.length d) = true then Rz.ok d (m.take m.length) else .no) = _
  rw [kept_refl, h, List.take_length]; rfl
theorem y_gcA {m g : M} {d : D} (h : below m.length d = true) : gcD m (.ok d (m ++ g)) = .ok d m := by
  show (if (keptB m (m ++ g) && below m.length d) = true then Rz.ok d ((m ++ g).take m.length) else .no) = _
  rw [kept_app, h, List.take_left]; rfl
theorem y_gcX {m : M} {x : XV} (h : belows m.length (x.fs.map (·.2)) = true) : gcD m (.ex x m) = .ex x m := by
  show (if (keptB m m && belows m.length (x.fs.map (·.2))) = true then Rz.ex x (m.take m.length) else .no) = _
  rw [kept_refl, h, List.take_length]; rfl
theorem y_gcXA {m g : M} {x : XV} (h : belows m.length (x.fs.map (·.2)) = true) : gcD m (.ex x (m ++ g)) = .ex x m := by
  show (if (keptB m (m ++ g) && belows m.length (x.fs.map (·.2))) = true then Rz.ex x ((m ++ g).take m.length) else .no) = _
  rw [kept_app, h, List.take_left]; rfl
mutual
theorem pure_below {n : Nat} : ∀ {d : D}, pure_ d = true → below n d = true
  | .non, _ => rfl
  | .bl _, _ => rfl
  | .int _, _ => rfl
  | .str _, _ => rfl
  | .tup xs, h => pures_below (xs := xs) h
  | .lst xs, h => pures_below (xs := xs) h
  | .frz _, h => by simp [pure_] at h
  | .ref _, h => by simp [pure_] at h
  | .obj _, h => by simp [pure_] at h
  | .dic _, h => by simp [pure_] at h
  | .gl _, h => rfl
theorem pures_below {n : Nat} : ∀ {xs : List D}, pures xs = true → belows n xs = true
  | [], _ => by simp [belows]
  | x :: xs, h => by
    simp only [pures, Bool.and_eq_true] at h
    simp only [belows, pure_below h.1, pures_below h.2, Bool.and_self]
end
theorem y_gcP {m : M} {d : D} (h : pure_ d = true) : gcD m (.ok d m) = .ok d m := y_gc (pure_below h)
theorem y_gcPA {m g : M} {d : D} (h : pure_ d = true) : gcD m (.ok d (m ++ g)) = .ok d m := y_gcA (pure_below h)
end Pv

local macro_rules | `(tactic| simp! only [$ls,*]) => `(tactic| simp -implicitDefEqProofs only [Pv.z_ok, Pv.z_ex, Pv.z_sok, Pv.z_sex, Pv.z_of, Pv.z_grd, Pv.y_sEq, Pv.y_apN, Pv.y_apC, Pv.y_hmP, Pv.y_hmG, Pv.y_hmF, Pv.x_var, Pv.y_var, Pv.x_con, Pv.x_glob, Pv.x_bin, Pv.x_neg, Pv.x_cmp, Pv.x_chain, Pv.x_isN, Pv.x_notN, Pv.x_and, Pv.x_and1, Pv.x_or, Pv.x_or1, Pv.x_not, Pv.x_ife, Pv.x_call, Pv.x_callG, Pv.x_callF, Pv.x_callD, Pv.x_meth, Pv.x_methG, Pv.x_mk, Pv.x_attr, Pv.x_xat, Pv.x_dnew, Pv.x_dget, Pv.x_bi, Pv.x_isi, Pv.x_listRg, Pv.x_ix, Pv.x_sl, Pv.x_tup, Pv.x_lst, Pv.x_comp, Pv.x_compIf, Pv.x_box, Pv.x_pop, Pv.x_popAt, Pv.x_append, Pv.x_dcomp, Pv.x_compR, Pv.x_compIR, Pv.x_comp2, Pv.x_minK, Pv.x_sortK, Pv.x_gin, Pv.x_gix, Pv.x_txt, Pv.x_stp, Pv.x_rev, Pv.x_join, Pv.x_fmt, Pv.x_isB, Pv.x_index, Pv.x_fstr, Pv.x_nil, Pv.x_cons, Pv.x_seq, Pv.x_rng1, Pv.x_rng2, Pv.x_enum, Pv.x_zip, Pv.x_zipS, Pv.x_asg, Pv.x_setix, Pv.x_aug, Pv.x_ex, Pv.x_if, Pv.x_for, Pv.x_forR, Pv.x_while, Pv.x_ret, Pv.x_star, Pv.x_brk, Pv.x_cont, Pv.x_pass, Pv.x_retN, Pv.x_setat, Pv.x_augat, Pv.x_raise, Pv.x_try, Pv.x_bnil, Pv.x_bcons, Pv.x_hyes, Pv.x_hno, Pv.x_hnil, Pv.y_k_xbin_1, Pv.y_k_xbin_0, Pv.y_k_xneg_0, Pv.y_k_xcmp_1, Pv.y_k_xcmp_0, Pv.y_k_xchain_1, Pv.y_k_xchain_0, Pv.y_k_xisN_0, Pv.y_k_xnotN_0, Pv.y_k_xnot_0, Pv.y_k_xcall_0, Pv.y_k_xcallG_0, Pv.y_k_xcallF_0, Pv.y_k_xcallD_0, Pv.y_k_xstar_0, Pv.y_k_xmeth_1, Pv.y_k_xmeth_0, Pv.y_k_xmethG_1, Pv.y_k_xmethG_0, Pv.y_k_xmk_1, Pv.y_k_xmk_0, Pv.y_k_xattr_0, Pv.y_k_xdget_1, Pv.y_k_xdget_0, Pv.y_k_xbi_0, Pv.y_k_xisi_0, Pv.y_k_xlistRg_0, Pv.y_k_xix_1, Pv.y_k_xix_0, Pv.y_k_xsl_2, Pv.y_k_xsl_1, Pv.y_k_xsl_0, Pv.y_k_xtup_0, Pv.y_k_xlst_0, Pv.y_k_xbox_0, Pv.y_k_xpop_0, Pv.y_k_xpopAt_1, Pv.y_k_xpopAt_0, Pv.y_k_xappend_1, Pv.y_k_xappend_0, Pv.y_k_xrev_0, Pv.y_k_xgin_0, Pv.y_k_xgix_0, Pv.y_k_xtxt_0, Pv.y_k_xstp_1, Pv.y_k_xstp_0, Pv.y_k_xjoin_1, Pv.y_k_xjoin_0, Pv.y_k_xfmt_0, Pv.y_k_xisB_0, Pv.y_k_xindex_1, Pv.y_k_xindex_0, Pv.y_k_xcons_1, Pv.y_k_xcons_0, Pv.y_k_xseq_0, Pv.y_k_xrng1_0, Pv.y_k_xrng2_1, Pv.y_k_xrng2_0, Pv.y_k_xzip_1, Pv.y_k_xzip_0, Pv.y_k_xzipS_1, Pv.y_k_xzipS_0, Pv.y_k_xasg_0, Pv.y_k_xsetix_2, Pv.y_k_xsetix_1, Pv.y_k_xsetix_0, Pv.y_k_xex_0, Pv.y_k_xfor_0, Pv.y_k_xret_0, Pv.y_k_xsetat_1, Pv.y_k_xsetat_0, Pv.y_k_xaugat_0, Pv.y_k_xraise_0, Pv.y_k_ychainT_0, Pv.y_k_yaug_0, Pv.y_k_yaugat_0, Pv.y_k_xenum_0, Pv.y_andT, Pv.y_andF, Pv.y_orT, Pv.y_orF, Pv.y_ifT, Pv.y_ifF, Pv.y_chainT, Pv.y_chainF, Pv.y_not, Pv.y_neg, Pv.y_isB, Pv.y_po0, Pv.y_poc, Pv.y_pov, Pv.y_pob, Pv.y_pon, Pv.y_poi, Pv.y_pol, Pv.y_poa, Pv.y_part, Pv.y_tup0, Pv.y_tup1, Pv.y_tup2, Pv.y_tup3, Pv.y_tup4, Pv.y_tup5, Pv.y_tup6, Pv.y_lst0, Pv.y_lst1, Pv.y_lst2, Pv.y_lst3, Pv.y_lst4, Pv.y_lst5, Pv.y_lst6, Pv.y_lst7, Pv.y_lst8, Pv.w_0, Pv.w_1, Pv.y_comp, Pv.y_compI, Pv.y_dcomp, Pv.y_dc, Pv.v_gin, Pv.v_gnotin, Pv.v_gix, Pv.z_lookN, Pv.z_lookC, Pv.z_isS, Pv.z_isN, Pv.v_inS, Pv.v_notinS, Pv.v_stp1, Pv.v_stpN, Pv.y_compR0, Pv.y_compIR0, Pv.y_forR0, Pv.v_lstAt, Pv.v_minK, Pv.v_comp2, Pv.v_sortK, Pv.v_compR, Pv.v_compIR, Pv.v_gdE, Pv.v_gdR, Pv.y_lc, Pv.y_box, Pv.y_isRef, Pv.y_isStr, Pv.y_isDic, Pv.y_isLs, Pv.y_isLsR, Pv.y_fstr, Pv.y_seqT, Pv.y_seqL, Pv.y_rng1, Pv.y_rng2, Pv.y_listRg, Pv.y_zipT, Pv.y_zipL, Pv.v_zipST, Pv.y_rtE, Pv.y_rtM, Pv.y_aug, Pv.y_augat, Pv.v_augA, Pv.v_augS, Pv.y_ifST, Pv.y_ifSF, Pv.y_nx, Pv.y_rt, Pv.y_bk, Pv.y_ct, Pv.y_xc, Pv.y_tnx, Pv.y_trt, Pv.y_tbk, Pv.y_tct, Pv.y_txc, Pv.y_hN, Pv.y_hS, Pv.y_oN, Pv.y_oNn, Pv.y_oNr, Pv.y_oNb, Pv.y_oNc, Pv.y_oSn, Pv.y_oSr, Pv.y_oSb, Pv.y_oSc, Pv.y_raise, Pv.y_raise1, Pv.y_raise2, Pv.y_xat, Pv.y_fget, Pv.y_fnR, Pv.y_fnN, Pv.y_fnX, Pv.y_nm, Pv.y_tp, Pv.y_tgn, Pv.y_tgc, Pv.y_tgk, Pv.v_add, Pv.v_sub, Pv.v_mul, Pv.v_fdiv, Pv.v_mod, Pv.v_pow, Pv.v_pow2, Pv.v_shl, Pv.v_catT, Pv.v_catL, Pv.v_catS, Pv.v_rep, Pv.v_eqI, Pv.v_eqS, Pv.v_eqB, Pv.v_neI, Pv.v_neS, Pv.v_neB, Pv.v_lt, Pv.v_le, Pv.v_gt, Pv.v_ge, Pv.v_lenT, Pv.v_lenL, Pv.v_lenF, Pv.v_tupL, Pv.v_tupT, Pv.v_listL, Pv.v_listT, Pv.v_intI, Pv.v_intB, Pv.v_max, Pv.v_min, Pv.v_ixT, Pv.v_ixL, Pv.v_ixR, Pv.v_lenR, Pv.v_tupR, Pv.v_setR, Pv.v_upR, Pv.v_appR, Pv.v_attr, Pv.v_setat, Pv.v_at0, Pv.v_at1, Pv.v_at2, Pv.v_at3, Pv.v_slF, Pv.v_slL, Pv.v_slT, Pv.v_slS, Pv.v_revS, Pv.v_revL, Pv.v_isTT, Pv.v_isTI, Pv.v_isTB, Pv.v_isTS, Pv.v_isIT, Pv.v_isII, Pv.v_isIB, Pv.v_isIS, Pv.v_isBT, Pv.v_isBI, Pv.v_isBB, Pv.v_isBS, Pv.v_isST, Pv.v_isSI, Pv.v_isSB, Pv.v_isSS, Pv.v_isN, Pv.y_lcomp, Pv.y_for0, Pv.y_gc, Pv.y_gcA, Pv.y_gcX, Pv.y_gcXA, Pv.y_gcP, Pv.y_gcPA, Option.map_some, Option.map_none, Option.bind_some, List.getElem?_cons_zero, List.getElem?_cons_succ, List.set_cons_zero, List.set_cons_succ, decide_true, decide_false, String.reduceEq, Int.reduceEq, Int.reduceLT, Int.reduceLE, decide_eq_true_eq, Bool.not_true, Bool.not_false, if_true, if_false, Bool.false_eq_true, $ls,*])
namespace Lw
open PySem Pv
def b_upward : Ss :=
  (.cons (.ret (.bin .mul (.bin .fdiv (.bin .sub (.bin .add (.var 0) (.var 1)) (.con (.int 1))) (.var 1)) (.var 1))) .nil)
def f_upward : FnD := { nm := "upward", ps := ["end", "by"], ns := ["end", "by"], body := b_upward }
def l_laid_0 : Ss :=
  (.cons (.asg (.tp (.cons (.nm 5) (.cons (.nm 6) .nil))) (.ix (.var 0) (.var 4))) (.cons (.ife (.cmp .gt (.var 5) (.con (.int 0))) (.cons (.setix (.var 2) (.var 4) (.callG 0 (.cons (.var 3) (.cons (.var 6) .nil)))) (.cons (.asg (.nm 3) (.bin .add (.ix (.var 2) (.var 4)) (.var 5))) .nil)) .nil) .nil))
def b_laid : Ss :=
  (.cons (.asg (.nm 2) (.box (.bin .mul (.lst (.cons (.con (.int 0)) .nil)) (.bi .len (.cons (.var 0) .nil))))) (.cons (.asg (.nm 3) (.con (.int 0))) (.cons (.for_ (.nm 4) (.seq (.var 1)) l_laid_0) (.cons (.ret (.tup (.cons (.bi .tuple (.cons (.var 2) .nil)) (.cons (.var 3) .nil)))) .nil))))
def f_laid : FnD := { nm := "laid", ps := ["parts", "beginning"], ns := ["parts", "beginning", "places", "end", "number", "many", "by"], body := b_laid }
def b_bits_of : Ss :=
  (.cons (.ret (.ix (.callG 1 (.cons (.var 0) (.cons (.var 1) .nil))) (.con (.int 1)))) .nil)
def f_bits_of : FnD := { nm := "bits_of", ps := ["parts", "order"], ns := ["parts", "order"], body := b_bits_of }
def l_all_orders_0 : Ss :=
  (.cons (.asg (.nm 1) (.comp2 [("one", 3), ("number", 4)] (.nm 3) (.seq (.var 1)) [4] (.nm 4) (.var 0) (.cmp .notin (.var 4) (.var 3)) (.bin .add (.var 3) (.tup (.cons (.var 4) .nil))))) .nil)
def b_all_orders : Ss :=
  (.cons (.asg (.nm 1) (.lst (.cons (.tup .nil) .nil))) (.cons (.for_ (.nm 2) (.rng1 (.var 0)) l_all_orders_0) (.cons (.ret (.var 1)) .nil)))
def f_all_orders : FnD := { nm := "all_orders", ps := ["many"], ns := ["many", "found", "turn", "one", "number"], body := b_all_orders }
def b_left_of : Ss :=
  (.cons (.ret (.compIf [("number", 2)] (.nm 2) (.rng1 (.bi .len (.cons (.var 0) .nil))) (.cmp .notin (.var 2) (.var 1)) (.var 2))) .nil)
def f_left_of : FnD := { nm := "left_of", ps := ["parts", "beginning"], ns := ["parts", "beginning", "number"], body := b_left_of }
def l_is_cut_0 : Ss :=
  (.cons (.aug 3 .add (.ix (.ix (.var 0) (.var 4)) (.con (.int 0)))) .nil)
def b_is_cut : Ss :=
  (.cons (.asg (.nm 3) (.ix (.callG 1 (.cons (.var 0) (.cons (.var 2) .nil))) (.con (.int 1)))) (.cons (.for_ (.nm 4) (.seq (.callG 4 (.cons (.var 0) (.cons (.var 2) .nil)))) l_is_cut_0) (.cons (.ret (.cmp .ge (.var 3) (.var 1))) .nil)))
def f_is_cut : FnD := { nm := "is_cut", ps := ["parts", "bits", "beginning"], ns := ["parts", "bits", "beginning", "total", "number"], body := b_is_cut }
def b_tree_of : Ss :=
  (.cons (.ife (.callG 5 (.cons (.var 0) (.cons (.var 1) (.cons (.var 2) .nil)))) (.cons (.ret (.tup .nil)) .nil) .nil) (.cons (.ret (.bi .tuple (.cons (.comp [("number", 3)] (.nm 3) (.seq (.callG 4 (.cons (.var 0) (.cons (.var 2) .nil)))) (.callG 6 (.cons (.var 0) (.cons (.var 1) (.cons (.bin .add (.var 2) (.tup (.cons (.var 3) .nil))) .nil))))) .nil))) .nil))
def f_tree_of : FnD := { nm := "tree_of", ps := ["parts", "bits", "beginning"], ns := ["parts", "bits", "beginning", "number"], body := b_tree_of }
def b_fewest : Ss :=
  (.cons (.asg (.nm 1) (.minK (.callG 3 (.cons (.bi .len (.cons (.var 0) .nil)) .nil)) 2 (.callG 2 (.cons (.var 0) (.cons (.var 2) .nil))))) (.cons (.asg (.nm 3) (.callG 2 (.cons (.var 0) (.cons (.var 1) .nil)))) (.cons (.ret (.tup (.cons (.var 3) (.cons (.var 1) (.cons (.callG 6 (.cons (.var 0) (.cons (.var 3) (.cons (.tup .nil) .nil)))) .nil))))) .nil)))
def f_fewest : FnD := { nm := "fewest", ps := ["parts"], ns := ["parts", "order", "one", "bits"], body := b_fewest, lm := true }
def b_is_whole : Ss :=
  (.cons (.ret (.and_ (.isi (.var 0) .int) (.and1 (.not_ (.isi (.var 0) .bool))))) .nil)
def f_is_whole : FnD := { nm := "is_whole", ps := ["thing"], ns := ["thing"], body := b_is_whole }
def b_is_part : Ss :=
  (.cons (.ife (.or_ (.not_ (.isi (.var 0) .tuple)) (.or_ (.cmp .ne (.bi .len (.cons (.var 0) .nil)) (.con (.int 2))) (.or_ (.not_ (.callG 8 (.cons (.ix (.var 0) (.con (.int 0))) .nil))) (.or1 (.not_ (.callG 8 (.cons (.ix (.var 0) (.con (.int 1))) .nil))))))) (.cons (.ret (.con (.bl false))) .nil) .nil) (.cons (.ret (.and_ (.chain .le .le (.con (.int 0)) (.ix (.var 0) (.con (.int 0))) (.glob 1)) (.and1 (.cmp .isin (.ix (.var 0) (.con (.int 1))) (.glob 2))))) .nil))
def f_is_part : FnD := { nm := "is_part", ps := ["thing"], ns := ["thing"], body := b_is_part }
def b_are_parts : Ss :=
  (.cons (.ife (.or_ (.not_ (.isi (.var 0) .tuple)) (.or1 (.cmp .gt (.bi .len (.cons (.var 0) .nil)) (.glob 0)))) (.cons (.ret (.con (.bl false))) .nil) .nil) (.cons (.ret (.bi .all (.cons (.comp [("part", 1)] (.nm 1) (.seq (.var 0)) (.callG 9 (.cons (.var 1) .nil))) .nil))) .nil))
def f_are_parts : FnD := { nm := "are_parts", ps := ["thing"], ns := ["thing", "part"], body := b_are_parts }
def b_is_order : Ss :=
  (.cons (.ife (.or_ (.not_ (.isi (.var 1) .tuple)) (.or_ (.cmp .ne (.bi .len (.cons (.var 1) .nil)) (.var 0)) (.or1 (.not_ (.bi .all (.cons (.comp [("number", 2)] (.nm 2) (.seq (.var 1)) (.callG 8 (.cons (.var 2) .nil))) .nil)))))) (.cons (.ret (.con (.bl false))) .nil) .nil) (.cons (.ret (.cmp .eq (.bi .sorted (.cons (.var 1) .nil)) (.listRg (.var 0)))) .nil))
def f_is_order : FnD := { nm := "is_order", ps := ["many", "thing"], ns := ["many", "thing", "number"], body := b_is_order }
def l_tree_fault_0 : Ss :=
  (.cons (.asg (.nm 7) (.callG 12 (.cons (.var 0) (.cons (.var 1) (.cons (.var 6) (.cons (.bin .add (.var 3) (.tup (.cons (.var 5) .nil))) .nil)))))) (.cons (.ife (.notN (.var 7)) (.cons (.ret (.var 7)) .nil) .nil) .nil))
def b_tree_fault : Ss :=
  (.cons (.ife (.not_ (.isi (.var 2) .tuple)) (.cons (.ret (.var 3)) .nil) .nil) (.cons (.ife (.cmp .eq (.bi .len (.cons (.var 2) .nil)) (.con (.int 0))) (.cons (.ret (.ife (.callG 5 (.cons (.var 0) (.cons (.var 1) (.cons (.var 3) .nil)))) (.con .non) (.var 3))) .nil) .nil) (.cons (.asg (.nm 4) (.callG 4 (.cons (.var 0) (.cons (.var 3) .nil)))) (.cons (.ife (.cmp .ne (.bi .len (.cons (.var 2) .nil)) (.bi .len (.cons (.var 4) .nil))) (.cons (.ret (.var 3)) .nil) .nil) (.cons (.for_ (.tp (.cons (.nm 5) (.cons (.nm 6) .nil))) (.zip (.var 4) (.var 2)) l_tree_fault_0) (.cons (.ret (.con .non)) .nil))))))
def f_tree_fault : FnD := { nm := "tree_fault", ps := ["parts", "bits", "tree", "beginning"], ns := ["parts", "bits", "tree", "beginning", "left", "number", "inner", "fault"], body := b_tree_fault }
def b_orderfault : Ss :=
  (.cons (.ife (.not_ (.callG 10 (.cons (.var 0) .nil))) (.cons (.ret (.tup (.cons (.con (.str "parts")) (.cons (.tup .nil) .nil)))) .nil) .nil) (.cons (.ife (.or_ (.not_ (.isi (.var 1) .tuple)) (.or_ (.cmp .ne (.bi .len (.cons (.var 1) .nil)) (.con (.int 3))) (.or1 (.not_ (.callG 8 (.cons (.ix (.var 1) (.con (.int 0))) .nil)))))) (.cons (.ret (.tup (.cons (.con (.str "form")) (.cons (.tup .nil) .nil)))) .nil) .nil) (.cons (.asg (.tp (.cons (.nm 3) (.cons (.nm 4) (.cons (.nm 5) .nil)))) (.var 1)) (.cons (.ife (.not_ (.callG 11 (.cons (.bi .len (.cons (.var 0) .nil)) (.cons (.var 4) .nil)))) (.cons (.ret (.tup (.cons (.con (.str "order")) (.cons (.tup .nil) .nil)))) .nil) .nil) (.cons (.ife (.cmp .ne (.callG 2 (.cons (.var 0) (.cons (.var 4) .nil))) (.var 3)) (.cons (.ret (.tup (.cons (.con (.str "bits")) (.cons (.tup .nil) .nil)))) .nil) .nil) (.cons (.asg (.nm 2) (.callG 12 (.cons (.var 0) (.cons (.var 3) (.cons (.var 5) (.cons (.tup .nil) .nil)))))) (.cons (.ife (.notN (.var 2)) (.cons (.ret (.tup (.cons (.con (.str "tree")) (.cons (.var 2) .nil)))) .nil) .nil) (.cons (.ret (.con .non)) .nil))))))))
def f_orderfault : FnD := { nm := "orderfault", ps := ["parts", "paper"], ns := ["parts", "paper", "fault", "bits", "order", "tree"], body := b_orderfault }
def b__law_draws : Ss :=
  (.cons (.asg (.nm 1) (.bin .add (.bi .list (.cons (.sl (.var 0) .nop (.con (.int 63))) .nil)) (.bin .mul (.lst (.cons (.con (.int 0)) .nil)) (.bi .int (.cons (.cmp .eq (.bi .len (.cons (.var 0) .nil)) (.con (.int 0))) .nil))))) (.cons (.ret (.box (.lst (.cons (.var 1) (.cons (.con (.int 0)) (.cons (.box (.comp [("_law_cell", 2)] (.nm 2) (.seq (.var 1)) (.bin .mul (.var 2) (.bi .int (.cons (.cmp .ge (.var 2) (.bin .pow (.con (.int 10)) (.con (.int 18)))) .nil))))) .nil)))))) .nil))
def f__law_draws : FnD := { nm := "_law_draws", ps := ["_law_script"], ns := ["_law_script", "_law_cells", "_law_cell"], body := b__law_draws }
def b__law_next : Ss :=
  (.cons (.asg (.up (.cons (.nm 6) (.cons (.nm 7) (.cons (.nm 8) .nil)))) (.var 0)) (.cons (.asg (.nm 2) (.bin .mod (.var 7) (.bi .len (.cons (.var 6) .nil)))) (.cons (.setix (.var 0) (.con (.int 1)) (.bin .add (.var 7) (.con (.int 1)))) (.cons (.ife (.cmp .gt (.ix (.var 8) (.var 2)) (.con (.int 0))) (.cons (.asg (.nm 9) (.bin .mod (.ix (.var 8) (.var 2)) (.var 1))) (.cons (.setix (.var 8) (.var 2) (.bin .fdiv (.ix (.var 8) (.var 2)) (.var 1))) (.cons (.ret (.var 9)) .nil))) .nil) (.cons (.asg (.nm 3) (.lst (.cons (.con (.int 2147483629)) (.cons (.con (.int 2147483587)) (.cons (.con (.int 2147483579)) (.cons (.con (.int 2147483563)) (.cons (.con (.int 2147483549)) (.cons (.con (.int 2147483543)) (.cons (.con (.int 2147483497)) .nil))))))))) (.cons (.asg (.nm 4) (.bin .add (.bin .add (.bin .mod (.ix (.var 6) (.var 2)) (.con (.int 2147483647))) (.bin .mul (.con (.int 48271)) (.var 7))) (.con (.int 104729)))) (.cons (.asg (.nm 4) (.bin .mod (.bin .pow (.var 4) (.con (.int 3))) (.ix (.var 3) (.bin .mod (.var 7) (.con (.int 7)))))) (.cons (.asg (.nm 5) (.bin .mod (.bin .pow (.bin .add (.var 4) (.bin .mul (.con (.int 7919)) (.var 7))) (.con (.int 2))) (.con (.int 2147483477)))) (.cons (.ret (.bin .mod (.bin .mod (.bin .add (.bin .mul (.var 5) (.con (.int 2147483423))) (.var 4)) (.con (.int 4611686018427387847))) (.var 1))) .nil)))))))))
def f__law_next : FnD := { nm := "_law_next", ps := ["_law_drawn", "_law_many"], ns := ["_law_drawn", "_law_many", "_law_at", "_law_primes", "_law_mixed", "_law_more", "_law_cells", "_law_sofar", "_law_rests", "_law_digit"], body := b__law_next }
def b__law_measure : Ss :=
  (.cons (.asg (.nm 1) (.ix (.lst (.cons (.con (.int 1)) (.cons (.con (.int 1)) (.cons (.con (.int 8)) (.cons (.con (.int 16)) (.cons (.con (.int 32)) (.cons (.con (.int 64)) .nil))))))) (.call 15 (.cons (.var 0) (.cons (.con (.int 6)) .nil))))) (.cons (.asg (.nm 2) (.call 15 (.cons (.var 0) (.cons (.con (.int 7)) .nil)))) (.cons (.ife (.cmp .eq (.var 2) (.con (.int 0))) (.cons (.ret (.tup (.cons (.con (.int 0)) (.cons (.var 1) .nil)))) .nil) .nil) (.cons (.ife (.cmp .eq (.var 2) (.con (.int 1))) (.cons (.ret (.tup (.cons (.bin .sub (.con (.int 4096)) (.call 15 (.cons (.var 0) (.cons (.con (.int 3)) .nil)))) (.cons (.var 1) .nil)))) .nil) .nil) (.cons (.ife (.cmp .eq (.var 2) (.con (.int 2))) (.cons (.ret (.tup (.cons (.call 15 (.cons (.var 0) (.cons (.con (.int 4097)) .nil))) (.cons (.var 1) .nil)))) .nil) .nil) (.cons (.ife (.cmp .eq (.var 2) (.con (.int 3))) (.cons (.ret (.tup (.cons (.bin .mul (.var 1) (.bin .add (.con (.int 1)) (.call 15 (.cons (.var 0) (.cons (.bin .fdiv (.con (.int 4096)) (.var 1)) .nil))))) (.cons (.var 1) .nil)))) .nil) .nil) (.cons (.ret (.tup (.cons (.bin .add (.con (.int 1)) (.call 15 (.cons (.var 0) (.cons (.con (.int 70)) .nil)))) (.cons (.var 1) .nil)))) .nil)))))))
def f__law_measure : FnD := { nm := "_law_measure", ps := ["_law_drawn"], ns := ["_law_drawn", "_law_by", "_law_way"], body := b__law_measure }
def b__law_parts : Ss :=
  (.cons (.ret (.bi .tuple (.cons (.comp [("_law_k", 2)] (.nm 2) (.rng1 (.call 15 (.cons (.var 0) (.cons (.bin .add (.var 1) (.con (.int 1))) .nil)))) (.call 16 (.cons (.var 0) .nil))) .nil))) .nil)
def f__law_parts : FnD := { nm := "_law_parts", ps := ["_law_drawn", "_law_most"], ns := ["_law_drawn", "_law_most", "_law_k"], body := b__law_parts }
def l__law_any_order_0 : Ss :=
  (.cons (.asg (.nm 3) (.bin .add (.var 3) (.tup (.cons (.popAt (.var 2) (.call 15 (.cons (.var 0) (.cons (.bi .len (.cons (.var 2) .nil)) .nil)))) .nil)))) .nil)
def b__law_any_order : Ss :=
  (.cons (.asg (.nm 2) (.box (.listRg (.var 1)))) (.cons (.asg (.nm 3) (.tup .nil)) (.cons (.for_ (.nm 4) (.rng1 (.var 1)) l__law_any_order_0) (.cons (.ret (.var 3)) .nil))))
def f__law_any_order : FnD := { nm := "_law_any_order", ps := ["_law_drawn", "_law_many"], ns := ["_law_drawn", "_law_many", "_law_left_here", "_law_found", "_law_k"], body := b__law_any_order }
def b__law_up : Ss :=
  (.cons (.ret (.bin .mul (.bin .fdiv (.bin .sub (.bin .add (.var 0) (.var 1)) (.con (.int 1))) (.var 1)) (.var 1))) .nil)
def f__law_up : FnD := { nm := "_law_up", ps := ["_law_end", "_law_by"], ns := ["_law_end", "_law_by"], body := b__law_up }
def l__law_laid_0 : Ss :=
  (.cons (.ife (.cmp .gt (.ix (.ix (.var 0) (.var 4)) (.con (.int 0))) (.con (.int 0))) (.cons (.setix (.var 2) (.var 4) (.callG 19 (.cons (.var 3) (.cons (.ix (.ix (.var 0) (.var 4)) (.con (.int 1))) .nil)))) (.cons (.asg (.nm 3) (.bin .add (.ix (.var 2) (.var 4)) (.ix (.ix (.var 0) (.var 4)) (.con (.int 0))))) .nil)) .nil) .nil)
def b__law_laid : Ss :=
  (.cons (.asg (.nm 2) (.box (.bin .mul (.lst (.cons (.con (.int 0)) .nil)) (.bi .len (.cons (.var 0) .nil))))) (.cons (.asg (.nm 3) (.con (.int 0))) (.cons (.for_ (.nm 4) (.seq (.var 1)) l__law_laid_0) (.cons (.ret (.tup (.cons (.bi .tuple (.cons (.var 2) .nil)) (.cons (.var 3) .nil)))) .nil))))
def f__law_laid : FnD := { nm := "_law_laid", ps := ["_law_pieces", "_law_beginning"], ns := ["_law_pieces", "_law_beginning", "_law_places", "_law_end", "_law_number"], body := b__law_laid }
def b__law_left : Ss :=
  (.cons (.ret (.compIf [("_law_k", 2)] (.nm 2) (.rng1 (.bi .len (.cons (.var 0) .nil))) (.cmp .notin (.var 2) (.var 1)) (.var 2))) .nil)
def f__law_left : FnD := { nm := "_law_left", ps := ["_law_pieces", "_law_beginning"], ns := ["_law_pieces", "_law_beginning", "_law_k"], body := b__law_left }
def b__law_cut : Ss :=
  (.cons (.asg (.nm 3) (.bi .sum (.cons (.comp [("_law_k", 4)] (.nm 4) (.seq (.callG 21 (.cons (.var 0) (.cons (.var 2) .nil)))) (.ix (.ix (.var 0) (.var 4)) (.con (.int 0)))) .nil))) (.cons (.ret (.cmp .ge (.bin .add (.ix (.callG 20 (.cons (.var 0) (.cons (.var 2) .nil))) (.con (.int 1))) (.var 3)) (.var 1))) .nil))
def f__law_cut : FnD := { nm := "_law_cut", ps := ["_law_pieces", "_law_bits", "_law_beginning"], ns := ["_law_pieces", "_law_bits", "_law_beginning", "_law_more", "_law_k"], body := b__law_cut }
def b__law_tree : Ss :=
  (.cons (.ife (.cmp .eq (.bi .len (.cons (.var 3) .nil)) (.bi .len (.cons (.var 1) .nil))) (.cons (.ret (.tup .nil)) .nil) .nil) (.cons (.ife (.and_ (.callG 22 (.cons (.var 1) (.cons (.var 2) (.cons (.var 3) .nil)))) (.and1 (.cmp .eq (.call 15 (.cons (.var 0) (.cons (.var 4) .nil))) (.con (.int 0))))) (.cons (.ret (.tup .nil)) .nil) .nil) (.cons (.asg (.nm 5) (.callG 21 (.cons (.var 1) (.cons (.var 3) .nil)))) (.cons (.ret (.bi .tuple (.cons (.comp [("_law_k", 6)] (.nm 6) (.seq (.var 5)) (.call 23 (.cons (.var 0) (.cons (.var 1) (.cons (.var 2) (.cons (.bin .add (.var 3) (.tup (.cons (.var 6) .nil))) (.cons (.var 4) .nil))))))) .nil))) .nil))))
def f__law_tree : FnD := { nm := "_law_tree", ps := ["_law_drawn", "_law_pieces", "_law_bits", "_law_beginning", "_law_rate"], ns := ["_law_drawn", "_law_pieces", "_law_bits", "_law_beginning", "_law_rate", "_law_left_here", "_law_k"], body := b__law_tree }
def l__law_scattered_0 : Ss :=
  (.cons (.asg (.tp (.cons (.nm 6) (.cons (.nm 7) .nil))) (.ix (.var 1) (.var 5))) (.cons (.ife (.cmp .gt (.var 6) (.con (.int 0))) (.cons (.asg (.nm 3) (.bin .add (.bin .add (.callG 19 (.cons (.var 3) (.cons (.var 7) .nil))) (.bin .mul (.var 7) (.bin .fdiv (.call 15 (.cons (.var 0) (.cons (.bin .add (.con (.int 1)) (.var 4)) .nil))) (.con (.int 2))))) (.var 6))) .nil) .nil) .nil))
def b__law_scattered : Ss :=
  (.cons (.asg (.nm 3) (.con (.int 0))) (.cons (.asg (.nm 4) (.call 15 (.cons (.var 0) (.cons (.con (.int 4)) .nil)))) (.cons (.for_ (.nm 5) (.seq (.var 2)) l__law_scattered_0) (.cons (.ret (.var 3)) .nil))))
def f__law_scattered : FnD := { nm := "_law_scattered", ps := ["_law_drawn", "_law_pieces", "_law_order"], ns := ["_law_drawn", "_law_pieces", "_law_order", "_law_end", "_law_loose", "_law_number", "_law_many", "_law_by"], body := b__law_scattered }
def b__law_papers : Ss :=
  (.cons (.asg (.nm 2) (.callG 18 (.cons (.var 0) (.cons (.bi .len (.cons (.var 1) .nil)) .nil)))) (.cons (.asg (.nm 3) (.ix (.callG 20 (.cons (.var 1) (.cons (.var 2) .nil))) (.con (.int 1)))) (.cons (.asg (.nm 4) (.call 23 (.cons (.var 0) (.cons (.var 1) (.cons (.var 3) (.cons (.tup .nil) (.cons (.con (.int 1)) .nil))))))) (.cons (.asg (.nm 5) (.callG 7 (.cons (.var 1) .nil))) (.cons (.asg (.nm 6) (.ix (.lst (.cons (.tup .nil) (.cons (.sl (.var 4) (.con (.int 1)) .nop) (.cons (.bin .add (.var 4) (.tup (.cons (.tup .nil) .nil))) (.cons (.bin .mul (.tup (.cons (.tup .nil) .nil)) (.bi .len (.cons (.var 1) .nil))) .nil))))) (.call 15 (.cons (.var 0) (.cons (.con (.int 4)) .nil))))) (.cons (.ret (.lst (.cons (.var 5) (.cons (.tup (.cons (.var 3) (.cons (.var 2) (.cons (.var 4) .nil)))) (.cons (.tup (.cons (.var 3) (.cons (.var 2) (.cons (.var 6) .nil)))) .nil))))) .nil))))))
def f__law_papers : FnD := { nm := "_law_papers", ps := ["_law_drawn", "_law_pieces"], ns := ["_law_drawn", "_law_pieces", "_law_order", "_law_bits", "_law_tree_here", "_law_told", "_law_bent"], body := b__law_papers }
def l_law_0 : Ss :=
  (.cons (.asg (.nm 7) (.callG 18 (.cons (.var 1) (.cons (.bi .len (.cons (.var 3) .nil)) .nil)))) (.cons (.asg (.nm 8) (.call 24 (.cons (.var 1) (.cons (.var 3) (.cons (.var 7) .nil))))) (.cons (.ife (.or_ (.cmp .ne (.compIf [("_law_one", 10)] (.nm 10) (.seq (.var 5)) (.cmp .gt (.var 10) (.var 8)) (.var 10)) (.lst .nil)) (.or1 (.cmp .gt (.callG 2 (.cons (.var 3) (.cons (.var 7) .nil))) (.var 8)))) (.cons (.ret (.con (.bl false))) .nil) .nil) .nil)))
def b_law : Ss :=
  (.cons (.asg (.nm 1) (.call 14 (.cons (.var 0) .nil))) (.cons (.asg (.nm 2) (.ix (.lst (.cons (.con (.int 5)) (.cons (.con (.int 5)) (.cons (.con (.int 8)) .nil)))) (.call 15 (.cons (.var 1) (.cons (.con (.int 3)) .nil))))) (.cons (.asg (.nm 3) (.call 17 (.cons (.var 1) (.cons (.var 2) .nil)))) (.cons (.asg (.nm 4) (.lst .nil)) (.cons (.ife (.cmp .lt (.bi .len (.cons (.var 3) .nil)) (.con (.int 6))) (.cons (.asg (.nm 4) (.call 25 (.cons (.var 1) (.cons (.var 3) .nil)))) (.cons (.ife (.notN (.callG 13 (.cons (.var 3) (.cons (.ix (.var 4) (.con (.int 0))) .nil)))) (.cons (.ret (.con (.bl false))) .nil) .nil) .nil)) .nil) (.cons (.asg (.nm 5) (.compIf [("_law_paper", 9)] (.nm 9) (.seq (.var 4)) (.isN (.callG 13 (.cons (.var 3) (.cons (.var 9) .nil)))) (.ix (.var 9) (.con (.int 0))))) (.cons (.for_ (.nm 6) (.rng1 (.bin .add (.con (.int 1)) (.call 15 (.cons (.var 1) (.cons (.con (.int 8)) .nil))))) l_law_0) (.cons (.ret (.con (.bl true))) .nil))))))))
def f_law : FnD := { nm := "law", ps := ["_law_script"], ns := ["_law_script", "_law_drawn", "_law_most", "_law_pieces", "_law_papers_here", "_law_least", "_law_turn", "_law_order", "_law_bits", "_law_paper", "_law_one"], body := b_law }
def tab : List FnD := [f_upward, f_laid, f_bits_of, f_all_orders, f_left_of, f_is_cut, f_tree_of, f_fewest, f_is_whole, f_is_part, f_are_parts, f_is_order, f_tree_fault, f_orderfault, f__law_draws, f__law_next, f__law_measure, f__law_parts, f__law_any_order, f__law_up, f__law_laid, f__law_left, f__law_cut, f__law_tree, f__law_scattered, f__law_papers, f_law]
def gl0 : List D := [(.int 8), (.int 4096), (.tup [(.int 1), (.int 8), (.int 16), (.int 32), (.int 64)])]
def xf0 (c : Str) : Option (List Str) := none
abbrev rn (n : Nat) : Fn := run tab gl0 xf0 n
theorem r_upward {F : Fn} {G : List D} {Xf : Str → Option (List Str)} {a0 a1 : D} {m : M} : runBody F G Xf f_upward [a0, a1] m = endR (evB F G Xf b_upward none [some a0, some a1] m) := rfl
theorem run_upward {n : Nat} : rn (n + 1) 0 = runBody (rn n) gl0 xf0 f_upward := rfl
theorem r_laid {F : Fn} {G : List D} {Xf : Str → Option (List Str)} {a0 a1 : D} {m : M} : runBody F G Xf f_laid [a0, a1] m = endR (evB F G Xf b_laid none [some a0, some a1, none, none, none, none, none] m) := rfl
theorem run_laid {n : Nat} : rn (n + 1) 1 = runBody (rn n) gl0 xf0 f_laid := rfl
theorem r_bits_of {F : Fn} {G : List D} {Xf : Str → Option (List Str)} {a0 a1 : D} {m : M} : runBody F G Xf f_bits_of [a0, a1] m = endR (evB F G Xf b_bits_of none [some a0, some a1] m) := rfl
theorem run_bits_of {n : Nat} : rn (n + 1) 2 = runBody (rn n) gl0 xf0 f_bits_of := rfl
theorem r_all_orders {F : Fn} {G : List D} {Xf : Str → Option (List Str)} {a0 : D} {m : M} : runBody F G Xf f_all_orders [a0] m = endR (evB F G Xf b_all_orders none [some a0, none, none, none, none] m) := rfl
theorem run_all_orders {n : Nat} : rn (n + 1) 3 = runBody (rn n) gl0 xf0 f_all_orders := rfl
theorem r_left_of {F : Fn} {G : List D} {Xf : Str → Option (List Str)} {a0 a1 : D} {m : M} : runBody F G Xf f_left_of [a0, a1] m = endR (evB F G Xf b_left_of none [some a0, some a1, none] m) := rfl
theorem run_left_of {n : Nat} : rn (n + 1) 4 = runBody (rn n) gl0 xf0 f_left_of := rfl
theorem r_is_cut {F : Fn} {G : List D} {Xf : Str → Option (List Str)} {a0 a1 a2 : D} {m : M} : runBody F G Xf f_is_cut [a0, a1, a2] m = endR (evB F G Xf b_is_cut none [some a0, some a1, some a2, none, none] m) := rfl
theorem run_is_cut {n : Nat} : rn (n + 1) 5 = runBody (rn n) gl0 xf0 f_is_cut := rfl
theorem r_tree_of {F : Fn} {G : List D} {Xf : Str → Option (List Str)} {a0 a1 a2 : D} {m : M} : runBody F G Xf f_tree_of [a0, a1, a2] m = endR (evB F G Xf b_tree_of none [some a0, some a1, some a2, none] m) := rfl
theorem run_tree_of {n : Nat} : rn (n + 1) 6 = runBody (rn n) gl0 xf0 f_tree_of := rfl
theorem r_fewest {F : Fn} {G : List D} {Xf : Str → Option (List Str)} {a0 : D} {m : M} : runBody F G Xf f_fewest [a0] m = endR (evB F G Xf b_fewest none [some a0, none, none, none] m) := rfl
theorem run_fewest {n : Nat} : rn (n + 1) 7 = runBody (rn n) gl0 xf0 f_fewest := rfl
theorem r_is_whole {F : Fn} {G : List D} {Xf : Str → Option (List Str)} {a0 : D} {m : M} : runBody F G Xf f_is_whole [a0] m = endR (evB F G Xf b_is_whole none [some a0] m) := rfl
theorem run_is_whole {n : Nat} : rn (n + 1) 8 = runBody (rn n) gl0 xf0 f_is_whole := rfl
theorem r_is_part {F : Fn} {G : List D} {Xf : Str → Option (List Str)} {a0 : D} {m : M} : runBody F G Xf f_is_part [a0] m = endR (evB F G Xf b_is_part none [some a0] m) := rfl
theorem run_is_part {n : Nat} : rn (n + 1) 9 = runBody (rn n) gl0 xf0 f_is_part := rfl
theorem r_are_parts {F : Fn} {G : List D} {Xf : Str → Option (List Str)} {a0 : D} {m : M} : runBody F G Xf f_are_parts [a0] m = endR (evB F G Xf b_are_parts none [some a0, none] m) := rfl
theorem run_are_parts {n : Nat} : rn (n + 1) 10 = runBody (rn n) gl0 xf0 f_are_parts := rfl
theorem r_is_order {F : Fn} {G : List D} {Xf : Str → Option (List Str)} {a0 a1 : D} {m : M} : runBody F G Xf f_is_order [a0, a1] m = endR (evB F G Xf b_is_order none [some a0, some a1, none] m) := rfl
theorem run_is_order {n : Nat} : rn (n + 1) 11 = runBody (rn n) gl0 xf0 f_is_order := rfl
theorem r_tree_fault {F : Fn} {G : List D} {Xf : Str → Option (List Str)} {a0 a1 a2 a3 : D} {m : M} : runBody F G Xf f_tree_fault [a0, a1, a2, a3] m = endR (evB F G Xf b_tree_fault none [some a0, some a1, some a2, some a3, none, none, none, none] m) := rfl
theorem run_tree_fault {n : Nat} : rn (n + 1) 12 = runBody (rn n) gl0 xf0 f_tree_fault := rfl
theorem r_orderfault {F : Fn} {G : List D} {Xf : Str → Option (List Str)} {a0 a1 : D} {m : M} : runBody F G Xf f_orderfault [a0, a1] m = endR (evB F G Xf b_orderfault none [some a0, some a1, none, none, none, none] m) := rfl
theorem run_orderfault {n : Nat} : rn (n + 1) 13 = runBody (rn n) gl0 xf0 f_orderfault := rfl
theorem r__law_draws {F : Fn} {G : List D} {Xf : Str → Option (List Str)} {a0 : D} {m : M} : runBody F G Xf f__law_draws [a0] m = endR (evB F G Xf b__law_draws none [some a0, none, none] m) := rfl
theorem run__law_draws {n : Nat} : rn (n + 1) 14 = runBody (rn n) gl0 xf0 f__law_draws := rfl
theorem r__law_next {F : Fn} {G : List D} {Xf : Str → Option (List Str)} {a0 a1 : D} {m : M} : runBody F G Xf f__law_next [a0, a1] m = endR (evB F G Xf b__law_next none [some a0, some a1, none, none, none, none, none, none, none, none] m) := rfl
theorem run__law_next {n : Nat} : rn (n + 1) 15 = runBody (rn n) gl0 xf0 f__law_next := rfl
theorem r__law_measure {F : Fn} {G : List D} {Xf : Str → Option (List Str)} {a0 : D} {m : M} : runBody F G Xf f__law_measure [a0] m = endR (evB F G Xf b__law_measure none [some a0, none, none] m) := rfl
theorem run__law_measure {n : Nat} : rn (n + 1) 16 = runBody (rn n) gl0 xf0 f__law_measure := rfl
theorem r__law_parts {F : Fn} {G : List D} {Xf : Str → Option (List Str)} {a0 a1 : D} {m : M} : runBody F G Xf f__law_parts [a0, a1] m = endR (evB F G Xf b__law_parts none [some a0, some a1, none] m) := rfl
theorem run__law_parts {n : Nat} : rn (n + 1) 17 = runBody (rn n) gl0 xf0 f__law_parts := rfl
theorem r__law_any_order {F : Fn} {G : List D} {Xf : Str → Option (List Str)} {a0 a1 : D} {m : M} : runBody F G Xf f__law_any_order [a0, a1] m = endR (evB F G Xf b__law_any_order none [some a0, some a1, none, none, none] m) := rfl
theorem run__law_any_order {n : Nat} : rn (n + 1) 18 = runBody (rn n) gl0 xf0 f__law_any_order := rfl
theorem r__law_up {F : Fn} {G : List D} {Xf : Str → Option (List Str)} {a0 a1 : D} {m : M} : runBody F G Xf f__law_up [a0, a1] m = endR (evB F G Xf b__law_up none [some a0, some a1] m) := rfl
theorem run__law_up {n : Nat} : rn (n + 1) 19 = runBody (rn n) gl0 xf0 f__law_up := rfl
theorem r__law_laid {F : Fn} {G : List D} {Xf : Str → Option (List Str)} {a0 a1 : D} {m : M} : runBody F G Xf f__law_laid [a0, a1] m = endR (evB F G Xf b__law_laid none [some a0, some a1, none, none, none] m) := rfl
theorem run__law_laid {n : Nat} : rn (n + 1) 20 = runBody (rn n) gl0 xf0 f__law_laid := rfl
theorem r__law_left {F : Fn} {G : List D} {Xf : Str → Option (List Str)} {a0 a1 : D} {m : M} : runBody F G Xf f__law_left [a0, a1] m = endR (evB F G Xf b__law_left none [some a0, some a1, none] m) := rfl
theorem run__law_left {n : Nat} : rn (n + 1) 21 = runBody (rn n) gl0 xf0 f__law_left := rfl
theorem r__law_cut {F : Fn} {G : List D} {Xf : Str → Option (List Str)} {a0 a1 a2 : D} {m : M} : runBody F G Xf f__law_cut [a0, a1, a2] m = endR (evB F G Xf b__law_cut none [some a0, some a1, some a2, none, none] m) := rfl
theorem run__law_cut {n : Nat} : rn (n + 1) 22 = runBody (rn n) gl0 xf0 f__law_cut := rfl
theorem r__law_tree {F : Fn} {G : List D} {Xf : Str → Option (List Str)} {a0 a1 a2 a3 a4 : D} {m : M} : runBody F G Xf f__law_tree [a0, a1, a2, a3, a4] m = endR (evB F G Xf b__law_tree none [some a0, some a1, some a2, some a3, some a4, none, none] m) := rfl
theorem run__law_tree {n : Nat} : rn (n + 1) 23 = runBody (rn n) gl0 xf0 f__law_tree := rfl
theorem r__law_scattered {F : Fn} {G : List D} {Xf : Str → Option (List Str)} {a0 a1 a2 : D} {m : M} : runBody F G Xf f__law_scattered [a0, a1, a2] m = endR (evB F G Xf b__law_scattered none [some a0, some a1, some a2, none, none, none, none, none] m) := rfl
theorem run__law_scattered {n : Nat} : rn (n + 1) 24 = runBody (rn n) gl0 xf0 f__law_scattered := rfl
theorem r__law_papers {F : Fn} {G : List D} {Xf : Str → Option (List Str)} {a0 a1 : D} {m : M} : runBody F G Xf f__law_papers [a0, a1] m = endR (evB F G Xf b__law_papers none [some a0, some a1, none, none, none, none, none] m) := rfl
theorem run__law_papers {n : Nat} : rn (n + 1) 25 = runBody (rn n) gl0 xf0 f__law_papers := rfl
theorem r_law {F : Fn} {G : List D} {Xf : Str → Option (List Str)} {a0 : D} {m : M} : runBody F G Xf f_law [a0] m = endR (evB F G Xf b_law none [some a0, none, none, none, none, none, none, none, none, none, none] m) := rfl
theorem run_law {n : Nat} : rn (n + 1) 26 = runBody (rn n) gl0 xf0 f_law := rfl
end Lw

namespace Lw
open PySem Pv
structure Dk where
  R : List Int
  C : List Int
  k : Nat
structure Dk.Ok (s : Dk) : Prop where
  len : s.C.length = s.R.length
  pos : 0 < s.C.length
  few : s.C.length ≤ 63
def mem (s : Dk) (g : M) : M := .lst (s.R.map .int) :: .lst [.lst (s.C.map .int), .int s.k, .ref 0] :: g
theorem set1 {o : MO} {a b c v : D} {g : M} : setM (o :: .lst [a, b, c] :: g) v (.ref 1) (.int 1) = some (o :: .lst [a, v, c] :: g) := by
  rw [v_setR (l := 1) (j := 1) rfl (by rfl)]
  rfl
theorem set0 {l : List Int} {v : Int} {j : Nat} {g : M} (h : j < l.length) : setM (.lst (l.map .int) :: g) (.int v) (.ref 0) (.int (j : Int)) = some (.lst ((l.set j v).map .int) :: g) := by
  rw [v_setR (l := 0) (j := j) rfl (by rw [List.length_map]; exact ixAt_nat h), List.map_set]
  rfl
theorem ix0 {l : List Int} {j : Nat} {g : M} (h : j < l.length) : ixM (.lst (l.map .int) :: g) (.ref 0) (.int (j : Int)) = some (.int l[j]) := by
  rw [v_ixR (l := 0) rfl]
  exact atD_ints h
theorem up3 {env : Pv.Env} {o : MO} {a b c : D} {g : M} {ts : Tgs} : bindTg (o :: .lst [a, b, c] :: g) (.up ts) (.ref 1) env = bindTgs (o :: .lst [a, b, c] :: g) ts [a, b, c] env := v_upR rfl
theorem small_of {i : Int} (h0 : 0 ≤ i) (h1 : i < 2 ^ 64) : small i = true := by simp only [small, Bool.and_eq_true, decide_eq_true_eq]; omega
theorem mulOk_l {i j : Int} (h0 : 0 ≤ i) (h1 : i < 2 ^ 64) : mulOk i j = true := by simp only [mulOk, small_of h0 h1, Bool.true_or]
theorem pow_small {i j : Int} (h0 : 0 ≤ j) (h1 : j ≤ 100) (h : i.natAbs < 1000000 * 2 ^ 4000) : powOk2 i j = true := by
  simp only [powOk2, Bool.and_eq_true, decide_eq_true_eq]
  refine ⟨⟨h0, h1⟩, ?_⟩
  by_cases hz : i.natAbs = 0
  · rw [hz]; decide
  · rw [Nat.log2_lt hz]
    refine Nat.lt_of_lt_of_le h ?_
    calc 1000000 * 2 ^ 4000 ≤ 2 ^ 20 * 2 ^ 4000 := Nat.mul_le_mul_right _ (by decide)
      _ = 2 ^ 4020 := by rw [← Nat.pow_add]
      _ ≤ 2 ^ 5000 := Nat.pow_le_pow_right (by decide) (by decide)
theorem next_ok (F : Fn) (G : List D) (Xf : Str → Option (List Str)) (s : Dk) (h : s.Ok) (hk : s.k < 2 ^ 4000) (many : Int) (h0 : 0 < many) (h9 : many.natAbs.log2 < 9000) (g : M) :
    ∃ d s', runBody F G Xf f__law_next [.ref 1, .int many] (mem s g) = .ok (.int d) (mem s' g) ∧ 0 ≤ d ∧ d < many ∧ s'.k = s.k + 1 ∧ s'.Ok := by
  obtain ⟨j, hj, ej⟩ : ∃ j : Nat, j < s.C.length ∧ ((s.k : Int) % (s.C.length : Int)) = (j : Int) := ⟨s.k % s.C.length, Nat.mod_lt _ h.pos, by simp⟩
  have hjr : j < s.R.length := by rw [← h.len]; exact hj
  have hc : (0 : Int) < (s.C.length : Int) := by have := h.pos; omega
  have e1 := atD_ints (l := s.C) hj
  have hd : divOk many = true := by simp [divOk, h0, h9]
  rw [r__law_next]
  by_cases hp : 0 < s.R[j]
  · refine ⟨s.R[j] % many, ⟨s.R.set j (s.R[j] / many), s.C, s.k + 1⟩, ?_, Int.emod_nonneg _ (by omega), Int.emod_lt_of_pos _ h0, rfl, ⟨by simpa using h.len, h.pos, h.few⟩⟩
    simp! only [b__law_next, mem, up3, v_mod hc, List.length_map, ej, set1, ix0 hjr, hp, v_mod h0, v_fdiv hd, set0 hjr]
    rfl
  · obtain ⟨i7, hi7, e7⟩ : ∃ i : Nat, i < 7 ∧ ((s.k : Int) % 7) = (i : Int) := ⟨s.k % 7, Nat.mod_lt _ (by decide), by simp⟩
    obtain ⟨pr, hp0, hp1, epr⟩ : ∃ p : Int, 0 < p ∧ p < 2 ^ 32 ∧ atD [.int 2147483629, .int 2147483587, .int 2147483579, .int 2147483563, .int 2147483549, .int 2147483543, .int 2147483497] (i7 : Int) = some (.int p) := by
      match i7, hi7 with
      | 0, _ => exact ⟨_, by decide, by decide, atD_nat (j := 0) rfl⟩
      | 1, _ => exact ⟨_, by decide, by decide, atD_nat (j := 1) rfl⟩
      | 2, _ => exact ⟨_, by decide, by decide, atD_nat (j := 2) rfl⟩
      | 3, _ => exact ⟨_, by decide, by decide, atD_nat (j := 3) rfl⟩
      | 4, _ => exact ⟨_, by decide, by decide, atD_nat (j := 4) rfl⟩
      | 5, _ => exact ⟨_, by decide, by decide, atD_nat (j := 5) rfl⟩
      | 6, _ => exact ⟨_, by decide, by decide, atD_nat (j := 6) rfl⟩
    have a1 : 0 ≤ s.C[j] % 2147483647 := Int.emod_nonneg _ (by decide)
    have a2 : s.C[j] % 2147483647 < 2147483647 := Int.emod_lt_of_pos _ (by decide)
    have b1 : 0 ≤ (s.C[j] % 2147483647 + 48271 * (s.k : Int) + 104729) ^ 3 % pr := Int.emod_nonneg _ (by omega)
    have b2 : (s.C[j] % 2147483647 + 48271 * (s.k : Int) + 104729) ^ 3 % pr < pr := Int.emod_lt_of_pos _ hp0
    have p1 : powOk2 (s.C[j] % 2147483647 + 48271 * (s.k : Int) + 104729) 3 = true := pow_small (by decide) (by decide) (by omega)
    have p2 : powOk2 ((s.C[j] % 2147483647 + 48271 * (s.k : Int) + 104729) ^ 3 % pr + 7919 * (s.k : Int)) 2 = true := pow_small (by decide) (by decide) (by omega)
    generalize hmx : (s.C[j] % 2147483647 + 48271 * (s.k : Int) + 104729) ^ 3 % pr = mx at *
    have b3 : 0 ≤ (mx + 7919 * (s.k : Int)) ^ 2 % 2147483477 := Int.emod_nonneg _ (by decide)
    have b4 : (mx + 7919 * (s.k : Int)) ^ 2 % 2147483477 < 2147483477 := Int.emod_lt_of_pos _ (by decide)
    generalize hmo : (mx + 7919 * (s.k : Int)) ^ 2 % 2147483477 = mo at *
    have q1 : ∀ m : M, bopD m .pow (.int (s.C[j] % 2147483647 + 48271 * (s.k : Int) + 104729)) (.int 3) = some (.int ((s.C[j] % 2147483647 + 48271 * (s.k : Int) + 104729) ^ 3)) := fun m => v_pow2 p1
    have q2 : ∀ m : M, bopD m .pow (.int (mx + 7919 * (s.k : Int))) (.int 2) = some (.int ((mx + 7919 * (s.k : Int)) ^ 2)) := fun m => v_pow2 p2
    refine ⟨(mo * 2147483423 + mx) % 4611686018427387847 % many, ⟨s.R, s.C, s.k + 1⟩, ?_, Int.emod_nonneg _ (by omega), Int.emod_lt_of_pos _ h0, rfl, ⟨h.len, h.pos, h.few⟩⟩
    simp! only [b__law_next, mem, up3, v_mod hc, List.length_map, ej, set1, ix0 hjr, hp, e1, v_mod (show (0 : Int) < 2147483647 by decide), v_mul (mulOk_l (i := 48271) (by decide) (by decide)), v_mul (mulOk_l (i := 7919) (by decide) (by decide)), q1, v_mod (show (0 : Int) < 7 by decide), e7, epr, v_mod hp0, hmx, q2, v_mod (show (0 : Int) < 2147483477 by decide), hmo, v_mul (mulOk_l (i := mo) (j := 2147483423) b3 (by omega)), v_mod (show (0 : Int) < 4611686018427387847 by decide), v_mod h0]
    rfl
theorem log_of {i : Int} (h0 : 0 < i) (h1 : i < 2 ^ 64) : i.natAbs.log2 < 9000 := by
  have : i.natAbs.log2 < 64 := (Nat.log2_lt (by omega)).mpr (by omega)
  omega
theorem k_big {k : Nat} (h : k < 2 ^ 40) : k < 2 ^ 4000 := Nat.lt_of_lt_of_le h (Nat.pow_le_pow_right (by decide) (by decide))
theorem next_run {n : Nat} (s : Dk) (h : s.Ok) (hk : s.k < 2 ^ 40) (many : Int) (h0 : 0 < many) (h1 : many < 2 ^ 64) (g : M) :
    ∃ d s', rn (n + 1) 15 [.ref 1, .int many] (mem s g) = .ok (.int d) (mem s' g) ∧ 0 ≤ d ∧ d < many ∧ s'.k = s.k + 1 ∧ s'.Ok := by
  rw [run__law_next]
  exact next_ok _ _ _ s h (k_big hk) many h0 (log_of h0 h1) g
theorem cut63 {l : List D} (h : l.length ≤ 63) : cutD l none (some 63) = l := by
  simp only [cutD, sIx]
  have : ¬ ((63 : Int) < 0) := by decide
  simp [this, h]
def bigD : D → D
  | .int c => .int (c * (if 1000000000000000000 ≤ c then 1 else 0))
  | d => d
theorem draws_ok (F : Fn) (G : List D) (Xf : Str → Option (List Str)) (ns : List Int) (h : ns.length ≤ 63) :
    ∃ s : Dk, runBody F G Xf f__law_draws [.frz (ns.map .int)] [] = .ok (.ref 1) (mem s []) ∧ s.Ok ∧ s.k = 0 := by
  have e10 : ∀ m : M, bopD m .pow (.int 10) (.int 18) = some (.int 1000000000000000000) := fun m => v_pow (by decide)
  have hm : ∀ (C : List Int) (env : Pv.Env) (m : M), (env[2]? = some none) → env.length = 3 → compL (.nm 2) env (evE F G none (.bin .mul (.var 2) (.bi .int (.cons (.cmp .ge (.var 2) (.bin .pow (.con (.int 10)) (.con (.int 18)))) .nil)))) (C.map .int) m = some ((C.map fun c => c * (if 1000000000000000000 ≤ c then 1 else 0)).map .int, m) := by
    intro C env m h2 h3
    match env, h2, h3 with
    | [a, b, none], _, _ =>
    rw [comp_map bigD]
    · rw [List.map_map, List.map_map]; rfl
    · intro x hx
      obtain ⟨c, _, rfl⟩ := List.mem_map.mp hx
      refine ⟨_, y_nm, ?_⟩
      by_cases hc : (1000000000000000000 : Int) ≤ c
      · simp! only [e10, hc, v_mul (show mulOk c 1 = true by simp [mulOk, small]), bigD]
      · simp! only [e10, hc, v_mul (show mulOk c 0 = true by simp [mulOk, small]), bigD]
  rw [r__law_draws]
  cases ns with
  | nil =>
    refine ⟨⟨[0], [0], 0⟩, ?_, ⟨rfl, by decide, by decide⟩, rfl⟩
    rfl
  | cons n ns =>
    refine ⟨⟨(n :: ns).map fun c => c * (if 1000000000000000000 ≤ c then 1 else 0), n :: ns, 0⟩, ?_, ⟨by simp, by simp, h⟩, rfl⟩
    have e2 := hm (n :: ns)
    have hl : ((n :: ns).map D.int).length ≤ 63 := by simpa using h
    have hl' : ((n :: ns).map D.int).length ≤ lim := lim10 (by omega)
    have e3 : (((((n :: ns).map D.int).length : Nat) : Int) = 0) = False := by simp; omega
    have e4 : ∀ m : M, bopD m .mul (.lst [.int 0]) (.int 0) = some (.lst []) := fun m => rfl
    simp! only [b__law_draws, cut63 hl, e3, e4, v_catL (show ((n :: ns).map D.int).length + ([] : List D).length ≤ lim from hl'), List.append_nil, y_comp hl']
    rw [e2 _ _ (by rfl) (by rfl)]
    simp! only []
    rfl
end Lw

namespace Lw
open PySem Pv
/-! ## pieces -/
abbrev Pc := Int × Int
def pcD (q : Pc) : D := .tup [.int q.1, .int q.2]
structure GoodP (q : Pc) : Prop where
  a : 0 ≤ q.1
  b : q.1 ≤ 4096
  c : q.2 = 1 ∨ q.2 = 8 ∨ q.2 = 16 ∨ q.2 = 32 ∨ q.2 = 64
theorem bys_at {w : Int} (h0 : 0 ≤ w) (h1 : w < 6) : ∃ b : Int, atD [.int 1, .int 1, .int 8, .int 16, .int 32, .int 64] w = some (.int b) ∧ (b = 1 ∨ b = 8 ∨ b = 16 ∨ b = 32 ∨ b = 64) := by
  obtain ⟨j, rfl⟩ : ∃ j : Nat, w = j := ⟨w.toNat, by omega⟩
  match j, (show j < 6 by omega) with
  | 0, _ => exact ⟨1, rfl, by omega⟩
  | 1, _ => exact ⟨1, rfl, by omega⟩
  | 2, _ => exact ⟨8, rfl, by omega⟩
  | 3, _ => exact ⟨16, rfl, by omega⟩
  | 4, _ => exact ⟨32, rfl, by omega⟩
  | 5, _ => exact ⟨64, rfl, by omega⟩
theorem by_div {b : Int} (h : b = 1 ∨ b = 8 ∨ b = 16 ∨ b = 32 ∨ b = 64) : divOk b = true ∧ 0 < b ∧ b ≤ 64 ∧ 0 < 4096 / b ∧ 4096 / b ≤ 4096 ∧ b * (4096 / b) = 4096 := by
  rcases h with rfl | rfl | rfl | rfl | rfl <;> decide
theorem measure_run {n : Nat} (s : Dk) (h : s.Ok) (hk : s.k < 2 ^ 30) (g : M) :
    ∃ q s', rn (n + 2) 16 [.ref 1] (mem s g) = .ok (pcD q) (mem s' g) ∧ GoodP q ∧ s'.k ≤ s.k + 3 ∧ s'.Ok := by
  obtain ⟨w, s1, e1, w0, w1, k1, o1⟩ := next_run (n := n) s h (by omega) 6 (by decide) (by decide) g
  obtain ⟨b, eb, hb⟩ := bys_at w0 w1
  obtain ⟨bd, b0, b1, b2, b3, b4⟩ := by_div hb
  obtain ⟨v, s2, e2, v0, v1, k2, o2⟩ := next_run (n := n) s1 o1 (by omega) 7 (by decide) (by decide) g
  rw [run__law_measure, r__law_measure]
  by_cases h0 : v = 0
  · refine ⟨(0, b), s2, ?_, ⟨Int.le_refl _, by show (0 : Int) ≤ 4096; decide, hb⟩, by omega, o2⟩
    simp! only [b__law_measure, e1, eb, e2, h0, pcD]
  by_cases h1 : v = 1
  · obtain ⟨z, s3, e3, z0, z1, k3, o3⟩ := next_run (n := n) s2 o2 (by omega) 3 (by decide) (by decide) g
    refine ⟨(4096 - z, b), s3, ?_, ⟨by show (0 : Int) ≤ 4096 - z; omega, by show 4096 - z ≤ (4096 : Int); omega, hb⟩, by omega, o3⟩
    simp! only [b__law_measure, e1, eb, e2, h1, e3, pcD]
  by_cases h2 : v = 2
  · obtain ⟨z, s3, e3, z0, z1, k3, o3⟩ := next_run (n := n) s2 o2 (by omega) 4097 (by decide) (by decide) g
    refine ⟨(z, b), s3, ?_, ⟨z0, by show z ≤ (4096 : Int); omega, hb⟩, by omega, o3⟩
    simp! only [b__law_measure, e1, eb, e2, h2, e3, pcD]
  by_cases h3 : v = 3
  · obtain ⟨z, s3, e3, z0, z1, k3, o3⟩ := next_run (n := n) s2 o2 (by omega) (4096 / b) b2 (by omega) g
    have m1 : b * (1 + z) ≤ b * (4096 / b) := Int.mul_le_mul_of_nonneg_left (by omega) (by omega)
    have m0 : 0 ≤ b * (1 + z) := Int.mul_nonneg (by omega) (by omega)
    refine ⟨(b * (1 + z), b), s3, ?_, ⟨m0, by show b * (1 + z) ≤ (4096 : Int); omega, hb⟩, by omega, o3⟩
    simp! only [b__law_measure, e1, eb, e2, h3, e3, v_fdiv bd, v_mul (mulOk_l (i := b) (j := 1 + z) (by omega) (by omega)), pcD]
  · obtain ⟨z, s3, e3, z0, z1, k3, o3⟩ := next_run (n := n) s2 o2 (by omega) 70 (by decide) (by decide) g
    refine ⟨(1 + z, b), s3, ?_, ⟨by show (0 : Int) ≤ 1 + z; omega, by show 1 + z ≤ (4096 : Int); omega, hb⟩, by omega, o3⟩
    simp! only [b__law_measure, e1, eb, e2, h0, h1, h2, h3, e3, pcD]
theorem comp_pc {n : Nat} {a b : D} {g : M} : ∀ (xs : List D) (s : Dk), s.Ok → s.k + 3 * xs.length < 2 ^ 30 →
    ∃ (l : List Pc) (s' : Dk), compL (.nm 2) [some (.ref 1), some b, none] (evE (rn (n + 2)) gl0 none (.call 16 (.cons (.var 0) .nil))) xs (mem s g) = some (l.map pcD, mem s' g) ∧ l.length = xs.length ∧ (∀ q ∈ l, GoodP q) ∧ s'.k ≤ s.k + 3 * xs.length ∧ s'.Ok
  | [], s, ok, _ => ⟨[], s, rfl, rfl, fun _ h => (nomatch h), by omega, ok⟩
  | x :: r, s, ok, hk => by
    rw [List.length_cons] at hk
    obtain ⟨q, s1, e1, g1, k1, o1⟩ := measure_run (n := n) s ok (by omega) g
    obtain ⟨l, s2, e2, hl, g2, k2, o2⟩ := comp_pc (n := n) (a := a) (b := b) (g := g) r s1 o1 (by omega)
    refine ⟨q :: l, s2, ?_, by simp [hl], fun p hp => ?_, by rw [List.length_cons]; omega, o2⟩
    · have ev : evE (rn (n + 2)) gl0 none (.call 16 (.cons (.var 0) .nil)) [some (.ref 1), some b, some x] (mem s g) = .ok (pcD q) (mem s1 g) := by
        simp! only [e1]
      rw [compL, y_nm, Option.bind_some]
      show (calmR (evE (rn (n + 2)) gl0 none (.call 16 (.cons (.var 0) .nil)) [some (.ref 1), some b, some x] (mem s g))).bind _ = _
      rw [ev]
      show ((compL (.nm 2) [some (.ref 1), some b, none] (evE (rn (n + 2)) gl0 none (.call 16 (.cons (.var 0) .nil))) r (mem s1 g)).bind fun z => some (pcD q :: z.1, z.2)) = _
      rw [e2]
      rfl
    · rcases List.mem_cons.mp hp with rfl | hp
      · exact g1
      · exact g2 p hp
def pcs (p : List Pc) : D := .tup (p.map pcD)
theorem parts_run {n : Nat} (s : Dk) (h : s.Ok) (hk : s.k < 2 ^ 29) (g : M) (most : Nat) (hm : most ≤ 8) :
    ∃ p s', rn (n + 3) 17 [.ref 1, .int most] (mem s g) = .ok (pcs p) (mem s' g) ∧ p.length ≤ most ∧ (∀ q ∈ p, GoodP q) ∧ s'.k ≤ s.k + 25 ∧ s'.Ok := by
  obtain ⟨c, s1, e1, c0, c1, k1, o1⟩ := next_run (n := n + 1) s h (by omega) ((most : Int) + 1) (by omega) (by omega) g
  obtain ⟨m, rfl⟩ : ∃ m : Nat, c = m := ⟨c.toNat, by omega⟩
  obtain ⟨l, s2, e2, hl, g2, k2, o2⟩ := comp_pc (n := n) (a := .ref 1) (b := .int most) (g := g) (rangeD 0 m) s1 o1 (by rw [rangeD_len]; omega)
  rw [rangeD_len] at hl k2
  have hr : rgOk (m : Int) = true := rgOk_of (by omega) (by omega)
  have hL : (rangeD 0 m).length ≤ lim := by rw [rangeD_len]; exact lim10 (by omega)
  refine ⟨l, s2, ?_, by omega, g2, by omega, o2⟩
  rw [run__law_parts, r__law_parts]
  simp! only [b__law_parts, e1, y_rng1 hr, Int.toNat_natCast, y_comp hL, e2]
  rfl
end Lw

namespace Lw
open PySem Pv
theorem compI_list {α : Type} {t : Tg} {env : Pv.Env} {tc te : Pv.Env → M → O1} {m : M} (fd fv : α → D) (g : α → Bool) : ∀ (l : List α), (∀ x, x ∈ l → ∃ e', bindTg m t (fd x) env = some e' ∧ tc e' m = .ok (.bl (g x)) m ∧ (g x = true → te e' m = .ok (fv x) m)) → compLI t env tc te (l.map fd) m = some ((l.filter g).map fv, m)
  | [], _ => rfl
  | x :: r, h => by
    obtain ⟨e', h1, h2, h3⟩ := h x List.mem_cons_self
    have ih := compI_list fd fv g r fun y hy => h y (List.mem_cons_of_mem _ hy)
    rw [List.map_cons, compLI, h1, Option.bind_some, h2]
    cases hg : g x with
    | true =>
      show ((calmR (te e' m)).bind fun p => (compLI t env tc te (r.map fd) p.2).bind fun q => some (p.1 :: q.1, q.2)) = _
      rw [h3 hg]
      show ((compLI t env tc te (r.map fd) m).bind fun q => some (fv x :: q.1, q.2)) = _
      rw [ih, List.filter_cons_of_pos hg]
      rfl
    | false =>
      show compLI t env tc te (r.map fd) m = _
      rw [ih, List.filter_cons_of_neg (by simp [hg])]
theorem mulOk_r {i j : Int} (h0 : 0 ≤ j) (h1 : j < 2 ^ 64) : mulOk i j = true := by simp only [mulOk, small_of h0 h1, Bool.or_true, Bool.true_or]
theorem getE {m : M} {x : MO} : (m ++ [x])[m.length]? = some x := by simp
theorem setE {m : M} {ps : List Int} {v : Int} {k : Nat} (h : k < ps.length) : setM (m ++ [.lst (ps.map .int)]) (.int v) (.ref m.length) (.int (k : Int)) = some (m ++ [.lst ((ps.set k v).map .int)]) := by
  rw [v_setR (l := m.length) (j := k) getE (by rw [List.length_map]; exact ixAt_nat h), List.map_set]
  simp
theorem ixE {m : M} {ps : List Int} {k : Nat} (h : k < ps.length) : ixM (m ++ [.lst (ps.map .int)]) (.ref m.length) (.int (k : Int)) = some (.int ps[k]) := by
  rw [v_ixR (l := m.length) getE]
  exact atD_ints h
theorem tupE {m : M} {xs : List D} : biD (m ++ [.lst xs]) .tuple [.ref m.length] = some (.tup xs) := by
  simp only [biD, seqOf, deref, getE]
  rfl
theorem zerosE {m : M} {n : Nat} (h : n ≤ 8) : bopD m .mul (.lst [.int 0]) (.int (n : Int)) = some (.lst ((List.replicate n (0 : Int)).map .int)) := by
  match n, h with
  | 0, _ => rfl
  | 1, _ => rfl
  | 2, _ => rfl
  | 3, _ => rfl
  | 4, _ => rfl
  | 5, _ => rfl
  | 6, _ => rfl
  | 7, _ => rfl
  | 8, _ => rfl
/-! ## upward -/
def up (e b : Int) : Int := (e + b - 1) / b * b
theorem upward_run {n : Nat} {e b : Int} {m : M} (hb : b = 1 ∨ b = 8 ∨ b = 16 ∨ b = 32 ∨ b = 64) : gcD m (rn (n + 1) 0 [.int e, .int b] m) = .ok (.int (up e b)) m := by
  obtain ⟨bd, b0, b1, _⟩ := by_div hb
  have : rn (n + 1) 0 [.int e, .int b] m = .ok (.int (up e b)) m := by
    rw [run_upward, r_upward]
    simp! only [b_upward, v_fdiv bd, v_mul (mulOk_r (i := (e + b - 1) / b) (j := b) (by omega) (by omega)), up]
  rw [this]
  exact y_gcP rfl
theorem lawup_run {n : Nat} {e b : Int} {m : M} (hb : b = 1 ∨ b = 8 ∨ b = 16 ∨ b = 32 ∨ b = 64) : gcD m (rn (n + 1) 19 [.int e, .int b] m) = .ok (.int (up e b)) m := by
  obtain ⟨bd, b0, b1, _⟩ := by_div hb
  have : rn (n + 1) 19 [.int e, .int b] m = .ok (.int (up e b)) m := by
    rw [run__law_up, r__law_up]
    simp! only [b__law_up, v_fdiv bd, v_mul (mulOk_r (i := (e + b - 1) / b) (j := b) (by omega) (by omega)), up]
  rw [this]
  exact y_gcP rfl
/-! ## laid -/
def pcN (p : List Pc) (k : Nat) : Pc := p.getD k (0, 0)
def stepL (p : List Pc) (st : List Int × Int) (k : Nat) : List Int × Int := if 0 < (pcN p k).1 then (st.1.set k (up st.2 (pcN p k).2), up st.2 (pcN p k).2 + (pcN p k).1) else st
def laidP (p : List Pc) (o : List Nat) : List Int × Int := o.foldl (stepL p) (List.replicate p.length 0, 0)
theorem step_len {p : List Pc} {st : List Int × Int} {k : Nat} : (stepL p st k).1.length = st.1.length := by
  unfold stepL
  split <;> simp
theorem fold_len {p : List Pc} : ∀ (o : List Nat) (st : List Int × Int), (o.foldl (stepL p) st).1.length = st.1.length
  | [], _ => rfl
  | k :: r, st => by rw [List.foldl_cons, fold_len r, step_len]
theorem at_pc {p : List Pc} {k : Nat} (h : k < p.length) : atD (p.map pcD) (k : Int) = some (.tup [.int (pcN p k).1, .int (pcN p k).2]) := by
  rw [atD_nat (j := k) (x := pcD p[k]) (by simp [h])]
  simp [pcN, h, pcD]
theorem good_pc {p : List Pc} (h : ∀ q ∈ p, GoodP q) {k : Nat} (hk : k < p.length) : GoodP (pcN p k) := by
  have e : pcN p k = p[k] := by simp [pcN, hk]
  rw [e]
  exact h _ (List.getElem_mem hk)
theorem laid_run {n : Nat} {p : List Pc} {o : List Nat} {m : M} (h : ∀ q ∈ p, GoodP q) (h8 : p.length ≤ 8) (ho : ∀ k ∈ o, k < p.length) (hol : o.length ≤ 100) :
    rn (n + 2) 1 [pcs p, .tup (o.map fun (k : Nat) => .int (k : Int))] m = .ok (.tup [.tup ((laidP p o).1.map .int), .int (laidP p o).2]) (m ++ [.lst ((laidP p o).1.map .int)]) := by
  rw [run_laid, r_laid]
  simp! only [b_laid, pcs, List.length_map, zerosE h8]
  obtain ⟨env', m', hf, hI⟩ := for_ok (t := .nm 4) (tb := evB (rn (n + 1)) gl0 xf0 l_laid_0 none) (fun i env m' => ∃ z4 z5 z6, env = [some (.tup (p.map pcD)), some (.tup (o.map fun (k : Nat) => .int (k : Int))), some (.ref m.length), some (.int ((o.take i).foldl (stepL p) (List.replicate p.length 0, 0)).2), z4, z5, z6] ∧ m' = m ++ [.lst (((o.take i).foldl (stepL p) (List.replicate p.length 0, 0)).1.map .int)])
    (o.map fun (k : Nat) => .int (k : Int)) [some (.tup (p.map pcD)), some (.tup (o.map fun (k : Nat) => .int (k : Int))), some (.ref m.length), some (.int 0), none, none, none] (m ++ [.lst ((List.replicate p.length (0 : Int)).map .int)]) ⟨none, none, none, rfl, rfl⟩ (by
    intro i hi env m1 hI
    obtain ⟨z4, z5, z6, rfl, rfl⟩ := hI
    have hi' : i < o.length := by simpa using hi
    have hk : o[i] < p.length := ho _ (List.getElem_mem hi')
    have gp := good_pc h hk
    have et : o.take (i + 1) = o.take i ++ [o[i]] := (List.take_append_getElem hi').symm
    have el : (o.map fun (k : Nat) => D.int (k : Int))[i] = .int (o[i] : Int) := by simp
    rw [el, et, List.foldl_append, List.foldl_cons, List.foldl_nil]
    have hlen : ((o.take i).foldl (stepL p) (List.replicate p.length 0, 0)).1.length = p.length := by rw [fold_len]; simp
    generalize (o.take i).foldl (stepL p) (List.replicate p.length 0, 0) = st at hlen ⊢
    obtain ⟨ps, e⟩ := st
    generalize o[i] = k at hk gp ⊢
    have hkl : k < ps.length := by rw [← hlen] at hk; exact hk
    generalize hq : pcN p k = q at gp
    obtain ⟨mn, b⟩ := q
    have ea := at_pc hk
    rw [hq] at ea
    by_cases hm : 0 < mn
    · have es : stepL p (ps, e) k = (ps.set k (up e b), up e b + mn) := by unfold stepL; rw [hq, if_pos hm]
      have hl2 : k < (ps.set k (up e b)).length := by simpa using hkl
      rw [es]
      refine ⟨_, [some (.tup (p.map pcD)), some (.tup (o.map fun (k : Nat) => .int (k : Int))), some (.ref m.length), some (.int (up e b + mn)), some (.int (k : Int)), some (.int mn), some (.int b)], m ++ [.lst ((ps.set k (up e b)).map .int)], y_nm, ?_, _, _, _, rfl, rfl⟩
      simp! only [l_laid_0, ea, hm, upward_run (n := n) (e := e) gp.c, setE hkl, ixE hl2, List.getElem_set_self]
    · have es : stepL p (ps, e) k = (ps, e) := by unfold stepL; rw [hq, if_neg hm]
      rw [es]
      refine ⟨_, [some (.tup (p.map pcD)), some (.tup (o.map fun (k : Nat) => .int (k : Int))), some (.ref m.length), some (.int e), some (.int (k : Int)), some (.int mn), some (.int b)], m ++ [.lst (ps.map .int)], y_nm, ?_, _, _, _, rfl, rfl⟩
      simp! only [l_laid_0, ea, hm])
  obtain ⟨z4, z5, z6, rfl, rfl⟩ := hI
  rw [List.length_map, List.take_length] at hf
  have hol' : (o.map fun (k : Nat) => D.int (k : Int)).length ≤ lim := by rw [List.length_map]; exact lim10 (by omega)
  rw [hf]
  simp! only [tupE, laidP]
def ords (o : List Nat) : D := .tup (o.map fun (k : Nat) => .int (k : Int))
theorem lawlaid_run {n : Nat} {p : List Pc} {o : List Nat} {m : M} (h : ∀ q ∈ p, GoodP q) (h8 : p.length ≤ 8) (ho : ∀ k ∈ o, k < p.length) (hol : o.length ≤ 100) :
    rn (n + 2) 20 [pcs p, ords o] m = .ok (.tup [.tup ((laidP p o).1.map .int), .int (laidP p o).2]) (m ++ [.lst ((laidP p o).1.map .int)]) := by
  rw [run__law_laid, r__law_laid]
  simp! only [b__law_laid, pcs, ords, List.length_map, zerosE h8]
  obtain ⟨env', m', hf, hI⟩ := for_ok (t := .nm 4) (tb := evB (rn (n + 1)) gl0 xf0 l__law_laid_0 none) (fun i env m' => ∃ z4, env = [some (.tup (p.map pcD)), some (.tup (o.map fun (k : Nat) => .int (k : Int))), some (.ref m.length), some (.int ((o.take i).foldl (stepL p) (List.replicate p.length 0, 0)).2), z4] ∧ m' = m ++ [.lst (((o.take i).foldl (stepL p) (List.replicate p.length 0, 0)).1.map .int)])
    (o.map fun (k : Nat) => .int (k : Int)) [some (.tup (p.map pcD)), some (.tup (o.map fun (k : Nat) => .int (k : Int))), some (.ref m.length), some (.int 0), none] (m ++ [.lst ((List.replicate p.length (0 : Int)).map .int)]) ⟨none, rfl, rfl⟩ (by
    intro i hi env m1 hI
    obtain ⟨z4, rfl, rfl⟩ := hI
    have hi' : i < o.length := by simpa using hi
    have hk : o[i] < p.length := ho _ (List.getElem_mem hi')
    have gp := good_pc h hk
    have et : o.take (i + 1) = o.take i ++ [o[i]] := (List.take_append_getElem hi').symm
    have el : (o.map fun (k : Nat) => D.int (k : Int))[i] = .int (o[i] : Int) := by simp
    rw [el, et, List.foldl_append, List.foldl_cons, List.foldl_nil]
    have hlen : ((o.take i).foldl (stepL p) (List.replicate p.length 0, 0)).1.length = p.length := by rw [fold_len]; simp
    generalize (o.take i).foldl (stepL p) (List.replicate p.length 0, 0) = st at hlen ⊢
    obtain ⟨ps, e⟩ := st
    generalize o[i] = k at hk gp ⊢
    have hkl : k < ps.length := by rw [← hlen] at hk; exact hk
    generalize hq : pcN p k = q at gp
    obtain ⟨mn, b⟩ := q
    have ea := at_pc hk
    rw [hq] at ea
    by_cases hm : 0 < mn
    · have es : stepL p (ps, e) k = (ps.set k (up e b), up e b + mn) := by unfold stepL; rw [hq, if_pos hm]
      have hl2 : k < (ps.set k (up e b)).length := by simpa using hkl
      rw [es]
      refine ⟨_, [some (.tup (p.map pcD)), some (.tup (o.map fun (k : Nat) => .int (k : Int))), some (.ref m.length), some (.int (up e b + mn)), some (.int (k : Int))], m ++ [.lst ((ps.set k (up e b)).map .int)], y_nm, ?_, _, rfl, rfl⟩
      simp! only [l__law_laid_0, ea, v_at0, v_at1, hm, lawup_run (n := n) (e := e) gp.c, setE hkl, ixE hl2, List.getElem_set_self]
    · have es : stepL p (ps, e) k = (ps, e) := by unfold stepL; rw [hq, if_neg hm]
      rw [es]
      refine ⟨_, [some (.tup (p.map pcD)), some (.tup (o.map fun (k : Nat) => .int (k : Int))), some (.ref m.length), some (.int e), some (.int (k : Int))], m ++ [.lst (ps.map .int)], y_nm, ?_, _, rfl, rfl⟩
      simp! only [l__law_laid_0, ea, v_at0, v_at1, hm])
  obtain ⟨z4, rfl, rfl⟩ := hI
  rw [List.length_map, List.take_length] at hf
  rw [hf]
  simp! only [tupE, laidP]
theorem pures_int : ∀ {l : List Int}, pures (l.map D.int) = true
  | [] => rfl
  | x :: r => by rw [List.map_cons, pures, pures_int]; rfl
theorem pures_of' : ∀ (o : List Nat), pures (o.map fun (k : Nat) => D.int (k : Int)) = true
  | [] => rfl
  | x :: r => by rw [List.map_cons, pures, pures_of' r]; rfl
theorem bits_run {n : Nat} {p : List Pc} {o : List Nat} {m : M} (h : ∀ q ∈ p, GoodP q) (h8 : p.length ≤ 8) (ho : ∀ k ∈ o, k < p.length) (hol : o.length ≤ 100) :
    rn (n + 3) 2 [pcs p, ords o] m = .ok (.int (laidP p o).2) m := by
  have e1 := laid_run (n := n) (m := m) h h8 ho hol
  have e2 : gcD m (rn (n + 2) 1 [pcs p, ords o] m) = .ok (.tup [.tup ((laidP p o).1.map .int), .int (laidP p o).2]) m := by
    show gcD m (rn (n + 2) 1 [pcs p, .tup (o.map fun (k : Nat) => .int (k : Int))] m) = _
    rw [e1]
    exact y_gcPA (by simp [pure_, pures, pures_int])
  rw [run_bits_of, r_bits_of]
  simp! only [b_bits_of, e2, v_at1]
end Lw

namespace Lw
open PySem Pv
/-! ## all orders -/
def lefts (n : Nat) (o : List Nat) : List Nat := (List.range n).filter fun k => decide (k ∉ o)
def nxO (n : Nat) (l : List (List Nat)) : List (List Nat) := l.flatMap fun o => (lefts n o).map fun k => o ++ [k]
def iterO (n : Nat) : Nat → List (List Nat)
  | 0 => [[]]
  | k + 1 => nxO n (iterO n k)
theorem mem_lefts {n k : Nat} {o : List Nat} : k ∈ lefts n o ↔ k < n ∧ k ∉ o := by simp [lefts]
theorem lefts_len {n : Nat} {o : List Nat} : (lefts n o).length ≤ n := by
  have := List.length_filter_le (fun k => decide (k ∉ o)) (List.range n)
  rwa [List.length_range] at this
theorem mem_nxO {n : Nat} {l : List (List Nat)} {o : List Nat} : o ∈ nxO n l ↔ ∃ a ∈ l, ∃ k ∈ lefts n a, a ++ [k] = o := by simp [nxO]
structure Pre (n : Nat) (o : List Nat) : Prop where
  nd : o.Nodup
  lt : ∀ k ∈ o, k < n
theorem Pre.nil {n : Nat} : Pre n [] := ⟨List.nodup_nil, fun _ h => (nomatch h)⟩
theorem Pre.snoc {n k : Nat} {o : List Nat} (h : Pre n o) (hk : k ∈ lefts n o) : Pre n (o ++ [k]) := by
  obtain ⟨h1, h2⟩ := mem_lefts.mp hk
  refine ⟨?_, fun j hj => ?_⟩
  · rw [List.nodup_append]
    refine ⟨h.nd, by simp, fun a ha b hb => ?_⟩
    rw [List.mem_singleton.mp hb]
    rintro rfl
    exact h2 ha
  · rcases List.mem_append.mp hj with q | q
    · exact h.lt j q
    · rw [List.mem_singleton.mp q]; exact h1
theorem mem_iterO {n : Nat} : ∀ {k : Nat} {o : List Nat}, o ∈ iterO n k ↔ o.length = k ∧ Pre n o
  | 0, o => by
    constructor
    · intro h
      rw [iterO, List.mem_singleton] at h
      subst h
      exact ⟨rfl, .nil⟩
    · rintro ⟨h, _⟩
      rw [iterO, List.mem_singleton]
      exact List.eq_nil_of_length_eq_zero h
  | k + 1, o => by
    rw [iterO, mem_nxO]
    constructor
    · rintro ⟨a, ha, j, hj, rfl⟩
      obtain ⟨h1, h2⟩ := mem_iterO.mp ha
      exact ⟨by simp [h1], h2.snoc hj⟩
    · rintro ⟨h1, h2⟩
      have hne : o ≠ [] := fun e => by rw [e] at h1; cases h1
      have e := List.dropLast_concat_getLast hne
      refine ⟨o.dropLast, mem_iterO.mpr ⟨by rw [List.length_dropLast, h1]; rfl, ?_⟩, o.getLast hne, mem_lefts.mpr ⟨h2.lt _ (List.getLast_mem hne), ?_⟩, e⟩
      · have := h2.nd
        rw [← e, List.nodup_append] at this
        exact ⟨this.1, fun j hj => h2.lt j (List.Sublist.subset (List.dropLast_sublist o) hj)⟩
      · have := h2.nd
        rw [← e, List.nodup_append] at this
        exact fun hm => this.2.2 _ hm _ (List.mem_singleton.mpr rfl) rfl
theorem nxO_len {n : Nat} : ∀ (l : List (List Nat)), (nxO n l).length ≤ l.length * n
  | [] => by simp [nxO]
  | a :: l => by
    have ih := nxO_len (n := n) l
    have h1 := lefts_len (n := n) (o := a)
    have e : nxO n (a :: l) = ((lefts n a).map fun k => a ++ [k]) ++ nxO n l := by simp [nxO]
    rw [e, List.length_append, List.length_map, List.length_cons, Nat.add_mul]
    omega
theorem iterO_len {n : Nat} (hn : n ≤ 5) : ∀ k, k ≤ 5 → (iterO n k).length ≤ 5 ^ k
  | 0, _ => by simp [iterO]
  | k + 1, h => by
    have ih := iterO_len hn k (by omega)
    have h1 := nxO_len (n := n) (iterO n k)
    have h2 : (iterO n k).length * n ≤ 5 ^ k * 5 := Nat.mul_le_mul ih hn
    rw [iterO, Nat.pow_succ]
    omega
theorem pow5 {k : Nat} (h : k ≤ 5) : 5 ^ k ≤ 3125 := by
  have := Nat.pow_le_pow_right (show 0 < 5 by decide) h
  simpa using this
theorem nxO_snoc {n : Nat} {l : List (List Nat)} {a : List Nat} : nxO n (l ++ [a]) = nxO n l ++ (lefts n a).map fun k => a ++ [k] := by simp [nxO]
/-! ## evaluated -/
theorem flat_ints : ∀ (o : List Nat), (o.map fun (k : Nat) => D.int (k : Int)).all flatD = true
  | [] => rfl
  | x :: r => by rw [List.map_cons, List.all_cons, flat_ints r]; rfl
theorem any_ints {k : Nat} : ∀ (o : List Nat), ((o.map fun (k : Nat) => D.int (k : Int)).any fun z => eqF z (.int (k : Int))) = decide (k ∈ o)
  | [] => by simp
  | x :: r => by
    rw [List.map_cons, List.any_cons, any_ints r]
    have e : eqF (.int (x : Int)) (.int (k : Int)) = decide (k = x) := by
      show ((x : Int) == (k : Int)) = _
      by_cases h : k = x
      · subst h; simp
      · have : ¬ (x : Int) = (k : Int) := by omega
        simp [h, this]
    rw [e]
    simp
theorem v_notinO {m : M} {k : Nat} {o : List Nat} : cmpM m .notin (.int (k : Int)) (.tup (o.map fun (k : Nat) => .int (k : Int))) = some (decide (k ∉ o)) := by
  show (inD m (.int (k : Int)) (.tup (o.map fun (k : Nat) => .int (k : Int)))).map (!·) = _
  have : inD m (.int (k : Int)) (.tup (o.map fun (k : Nat) => .int (k : Int))) = some (decide (k ∈ o)) := by
    show (if flatD (.int (k : Int)) && (o.map fun (k : Nat) => D.int (k : Int)).all flatD then some ((o.map fun (k : Nat) => D.int (k : Int)).any fun z => eqF z (.int (k : Int))) else none) = _
    rw [flat_ints, any_ints]
    rfl
  rw [this]
  simp
theorem rangeD_nat {n : Nat} : rangeD 0 n = (List.range n).map fun (i : Nat) => D.int (i : Int) := by simp [rangeD]
theorem ords_snoc {m : M} {o : List Nat} {k : Nat} (h : o.length ≤ 100) : bopD m .add (.tup (o.map fun (k : Nat) => .int (k : Int))) (.tup [.int (k : Int)]) = some (.tup ((o ++ [k]).map fun (k : Nat) => .int (k : Int))) := by
  rw [v_catT (by rw [List.length_map]; exact lim10 (by simp; omega))]
  simp
theorem comp2_list {α : Type} {t t1 : Tg} {vs1 : List Nat} {env : Pv.Env} {tb tc te : Pv.Env → M → O1} {m : M} (fd : α → D) (f : α → List D) : ∀ (l : List α), (∀ x, x ∈ l → ∃ e' d js, bindTg m t (fd x) env = some e' ∧ tb e' m = .ok d m ∧ rng1I d = some js ∧ compLI t1 (wipeE e' vs1) tc te js m = some (f x, m)) →
    comp2L t t1 vs1 env tb tc te (l.map fd) m = some (l.flatMap f, m)
  | [], _ => rfl
  | x :: r, h => by
    obtain ⟨e', d, js, h1, h2, h3, h4⟩ := h x List.mem_cons_self
    have ih := comp2_list (t1 := t1) (vs1 := vs1) (tc := tc) (te := te) fd f r fun y hy => h y (List.mem_cons_of_mem _ hy)
    rw [List.map_cons, comp2L, h1, Option.bind_some, h2]
    show (rng1I d).bind _ = _
    rw [h3, Option.bind_some, h4, Option.bind_some, ih]
    rfl
section
variable {F : Fn} {G : List D} {cx : Option (Nat × XV)} {own : List (Str × Nat)} {t t1 : Tg} {vs1 : List Nat} {a b c : E} {env : Pv.Env} {xs ys : List D} {m : M}
theorem y_comp2 (h : xs.length ≤ lim) : kComp2 F G cx own t vs1 t1 b c a env xs m = kLc2 (comp2L t t1 vs1 (wipeE env (ownN own)) (evE F G cx b) (evE F G cx c) (evE F G cx a) xs m) := if_pos h
theorem y_lc2 (h : ys.length ≤ lim) : kLc2 (some (ys, m)) = .ok (.lst ys) m := if_pos h
end
/-- what stands behind one beginning -/
theorem lefts_ev {n N : Nat} {o : List Nat} {m : M} {z0 z1 z2 : Option D} (ho : o.length ≤ 99) : compLI (.nm 4) [z0, z1, z2, some (.tup (o.map fun (k : Nat) => .int (k : Int))), none] (evE (rn n) gl0 none (.cmp .notin (.var 4) (.var 3))) (evE (rn n) gl0 none (.bin .add (.var 3) (.tup (.cons (.var 4) .nil)))) (rangeD 0 N) m = some (((lefts N o).map fun k => o ++ [k]).map ords, m) := by
  rw [rangeD_nat, List.map_map]
  refine compI_list (fun i : Nat => D.int (i : Int)) (fun k => ords (o ++ [k])) (fun k => decide (k ∉ o)) (List.range N) fun k hk => ?_
  refine ⟨_, y_nm, ?_, fun _ => ?_⟩
  · simp! only [v_notinO]
  · simp! only [ords_snoc (show o.length ≤ 100 by omega), ords]
theorem orders_run {n N : Nat} {m : M} (hN : N ≤ 5) : rn (n + 1) 3 [.int (N : Int)] m = .ok (.lst ((iterO N N).map ords)) m := by
  have hr : rgOk (N : Int) = true := rgOk_of (by omega) (by omega)
  rw [run_all_orders, r_all_orders]
  obtain ⟨envA, mA, fA, z2, rfl, rfl⟩ := for_ok (t := .nm 2) (tb := evB (rn n) gl0 xf0 l_all_orders_0 none)
    (fun i env m1 => ∃ z2, env = [some (.int (N : Int)), some (.lst ((iterO N i).map ords)), z2, none, none] ∧ m1 = m)
    (rangeD 0 N) [some (.int (N : Int)), some (.lst [.tup []]), none, none, none] m ⟨none, rfl, rfl⟩ (by
      rintro i hi env m1 ⟨z2, rfl, rfl⟩
      rw [rangeD_len] at hi
      have hl := iterO_len hN i (by omega)
      have hp := pow5 (k := i) (by omega)
      have hl2 := iterO_len hN (i + 1) (by omega)
      have hp2 := pow5 (k := i + 1) (by omega)
      have hL : ((iterO N i).map ords).length ≤ lim := by rw [List.length_map]; exact lim10 (by omega)
      have hL2 : ((iterO N (i + 1)).map ords).length ≤ lim := by rw [List.length_map]; exact lim10 (by omega)
      have hc := comp2_list (t := .nm 3) (t1 := .nm 4) (vs1 := [4]) (env := [some (.int (N : Int)), some (.lst ((iterO N i).map ords)), some (rangeD 0 N)[i], none, none]) (tb := evE (rn n) gl0 none (.var 0)) (tc := evE (rn n) gl0 none (.cmp .notin (.var 4) (.var 3))) (te := evE (rn n) gl0 none (.bin .add (.var 3) (.tup (.cons (.var 4) .nil)))) (m := m1) ords (fun o => ((lefts N o).map fun k => o ++ [k]).map ords) (iterO N i) (by
        intro o ho
        obtain ⟨h1, h2⟩ := mem_iterO.mp ho
        refine ⟨_, .int (N : Int), rangeD 0 N, y_nm, ?_, by rw [y_rng1 hr, Int.toNat_natCast], ?_⟩
        · simp! only []
        · exact lefts_ev (z0 := some (.int (N : Int))) (z1 := some (.lst ((iterO N i).map ords))) (z2 := some (rangeD 0 N)[i]) (by omega))
      have ef : (iterO N i).flatMap (fun o => ((lefts N o).map fun k => o ++ [k]).map ords) = (iterO N (i + 1)).map ords := by
        rw [iterO, nxO, List.map_flatMap]
      rw [ef] at hc
      refine ⟨_, [some (.int (N : Int)), some (.lst ((iterO N (i + 1)).map ords)), some (rangeD 0 N)[i], none, none], m1, y_nm, ?_, _, rfl, rfl⟩
      simp! only [l_all_orders_0, y_comp2 hL, hc, y_lc2 hL2])
  rw [rangeD_len] at fA
  simp! only [b_all_orders, y_rng1 hr, Int.toNat_natCast, fA]
theorem left_ev {n N : Nat} {o : List Nat} {m : M} {z0 : Option D} : compLI (.nm 2) [z0, some (.tup (o.map fun (k : Nat) => .int (k : Int))), none] (evE (rn n) gl0 none (.cmp .notin (.var 2) (.var 1))) (evE (rn n) gl0 none (.var 2)) (rangeD 0 N) m = some ((lefts N o).map fun (k : Nat) => D.int (k : Int), m) := by
  rw [rangeD_nat]
  refine compI_list (fun i : Nat => D.int (i : Int)) (fun k : Nat => D.int (k : Int)) (fun k => decide (k ∉ o)) (List.range N) fun k hk => ?_
  refine ⟨_, y_nm, ?_, fun _ => ?_⟩
  · simp! only [v_notinO]
  · simp! only []
theorem left_run {n : Nat} {p : List Pc} {o : List Nat} {m : M} (h8 : p.length ≤ 8) : rn (n + 1) 4 [pcs p, ords o] m = .ok (.lst ((lefts p.length o).map fun (k : Nat) => D.int (k : Int))) m := by
  have hr : rgOk (p.length : Int) = true := rgOk_of (by omega) (by omega)
  have hL : (rangeD 0 p.length).length ≤ lim := by rw [rangeD_len]; exact lim10 (by omega)
  rw [run_left_of, r_left_of]
  simp! only [b_left_of, pcs, ords, List.length_map, y_rng1 hr, Int.toNat_natCast, y_compI hL, left_ev]
theorem lawleft_run {n : Nat} {p : List Pc} {o : List Nat} {m : M} (h8 : p.length ≤ 8) : rn (n + 1) 21 [pcs p, ords o] m = .ok (.lst ((lefts p.length o).map fun (k : Nat) => D.int (k : Int))) m := by
  have hr : rgOk (p.length : Int) = true := rgOk_of (by omega) (by omega)
  have hL : (rangeD 0 p.length).length ≤ lim := by rw [rangeD_len]; exact lim10 (by omega)
  rw [run__law_left, r__law_left]
  simp! only [b__law_left, pcs, ords, List.length_map, y_rng1 hr, Int.toNat_natCast, y_compI hL, left_ev]
end Lw

namespace Lw
open PySem Pv
/-! ## cuts -/
def sizes (p : List Pc) (l : List Nat) : Int := (l.map fun k => (pcN p k).1).sum
def cutP (p : List Pc) (bits : Int) (o : List Nat) : Bool := decide (bits ≤ (laidP p o).2 + sizes p (lefts p.length o))
theorem sizes_snoc {p : List Pc} {l : List Nat} {k : Nat} : sizes p (l ++ [k]) = sizes p l + (pcN p k).1 := by simp [sizes]
theorem sub_len : ∀ {a b : List Nat}, a.Nodup → (∀ x ∈ a, x ∈ b) → a.length ≤ b.length
  | [], b, _, _ => Nat.zero_le _
  | x :: a, b, hn, h => by
    have hn' := List.nodup_cons.mp hn
    have hx := h x List.mem_cons_self
    have ih := sub_len (a := a) (b := b.erase x) hn'.2 fun y hy => (List.mem_erase_of_ne (fun e => hn'.1 (by rw [← e]; exact hy))).mpr (h y (List.mem_cons_of_mem _ hy))
    rw [List.length_erase_of_mem hx] at ih
    have := List.length_pos_of_mem hx
    rw [List.length_cons]
    omega
theorem Pre.len {n : Nat} {o : List Nat} (h : Pre n o) : o.length ≤ n := by
  have := sub_len h.nd (b := List.range n) fun k hk => List.mem_range.mpr (h.lt k hk)
  rwa [List.length_range] at this
theorem laid_gc {n : Nat} {p : List Pc} {o : List Nat} {m : M} (h : ∀ q ∈ p, GoodP q) (h8 : p.length ≤ 8) (ho : Pre p.length o) : gcD m (rn (n + 2) 1 [pcs p, ords o] m) = .ok (.tup [.tup ((laidP p o).1.map .int), .int (laidP p o).2]) m := by
  show gcD m (rn (n + 2) 1 [pcs p, .tup (o.map fun (k : Nat) => .int (k : Int))] m) = _
  rw [laid_run (n := n) (m := m) h h8 ho.lt (by have := ho.len; omega)]
  exact y_gcPA (by simp [pure_, pures, pures_int])
theorem lawlaid_gc {n : Nat} {p : List Pc} {o : List Nat} {m : M} (h : ∀ q ∈ p, GoodP q) (h8 : p.length ≤ 8) (ho : Pre p.length o) : gcD m (rn (n + 2) 20 [pcs p, ords o] m) = .ok (.tup [.tup ((laidP p o).1.map .int), .int (laidP p o).2]) m := by
  rw [lawlaid_run (n := n) (m := m) h h8 ho.lt (by have := ho.len; omega)]
  exact y_gcPA (by simp [pure_, pures, pures_int])
theorem left_gc {n : Nat} {p : List Pc} {o : List Nat} {m : M} (h8 : p.length ≤ 8) : gcD m (rn (n + 1) 4 [pcs p, ords o] m) = .ok (.lst ((lefts p.length o).map fun (k : Nat) => D.int (k : Int))) m := by
  rw [left_run h8]
  exact y_gcP (by rw [pure_]; exact pures_of' _)
theorem lawleft_gc {n : Nat} {p : List Pc} {o : List Nat} {m : M} (h8 : p.length ≤ 8) : gcD m (rn (n + 1) 21 [pcs p, ords o] m) = .ok (.lst ((lefts p.length o).map fun (k : Nat) => D.int (k : Int))) m := by
  rw [lawleft_run h8]
  exact y_gcP (by rw [pure_]; exact pures_of' _)
theorem iscut_run {n : Nat} {p : List Pc} {o : List Nat} {b : Int} {m : M} (h : ∀ q ∈ p, GoodP q) (h8 : p.length ≤ 8) (ho : Pre p.length o) : rn (n + 3) 5 [pcs p, .int b, ords o] m = .ok (.bl (cutP p b o)) m := by
  have e1 := laid_gc (n := n) (m := m) h h8 ho
  have e2 := left_gc (n := n + 1) (o := o) (m := m) h8
  rw [run_is_cut, r_is_cut]
  obtain ⟨envA, mA, fA, z4, rfl, rfl⟩ := for_ok (t := .nm 4) (tb := evB (rn (n + 2)) gl0 xf0 l_is_cut_0 none)
    (fun i env m1 => ∃ z4, env = [some (pcs p), some (.int b), some (ords o), some (.int ((laidP p o).2 + sizes p ((lefts p.length o).take i))), z4] ∧ m1 = m)
    ((lefts p.length o).map fun (k : Nat) => D.int (k : Int)) [some (pcs p), some (.int b), some (ords o), some (.int (laidP p o).2), none] m ⟨none, by simp [sizes], rfl⟩ (by
      rintro i hi env m1 ⟨z4, rfl, rfl⟩
      have hi' : i < (lefts p.length o).length := by simpa using hi
      have hk : (lefts p.length o)[i] < p.length := (mem_lefts.mp (List.getElem_mem hi')).1
      have et : (lefts p.length o).take (i + 1) = (lefts p.length o).take i ++ [(lefts p.length o)[i]] := (List.take_append_getElem hi').symm
      have el : ((lefts p.length o).map fun (k : Nat) => D.int (k : Int))[i] = .int ((lefts p.length o)[i] : Int) := by simp
      rw [el, et, sizes_snoc]
      generalize (lefts p.length o)[i] = k at hk ⊢
      have ea := at_pc hk
      refine ⟨_, [some (pcs p), some (.int b), some (ords o), some (.int ((laidP p o).2 + sizes p ((lefts p.length o).take i) + (pcN p k).1)), some (.int (k : Int))], m1, y_nm, ?_, some (.int (k : Int)), by rw [Int.add_assoc], rfl⟩
      simp! only [l_is_cut_0, pcs, ea, v_at0])
  rw [List.length_map, List.take_length] at fA
  simp! only [b_is_cut, e1, v_at1, e2, fA, cutP]
theorem comp_sz {n : Nat} {p : List Pc} {m : M} {z1 z2 z3 : Option D} (l : List Nat) (hl : ∀ k ∈ l, k < p.length) : compL (.nm 4) [some (pcs p), z1, z2, z3, none] (evE (rn n) gl0 none (.ix (.ix (.var 0) (.var 4)) (.con (.int 0)))) (l.map fun (k : Nat) => D.int (k : Int)) m = some ((l.map fun k => (pcN p k).1).map .int, m) := by
  rw [List.map_map]
  exact compL_map l hl
where compL_map : ∀ (l : List Nat), (∀ k ∈ l, k < p.length) → compL (.nm 4) [some (pcs p), z1, z2, z3, none] (evE (rn n) gl0 none (.ix (.ix (.var 0) (.var 4)) (.con (.int 0)))) (l.map fun (k : Nat) => D.int (k : Int)) m = some (l.map (D.int ∘ fun k => (pcN p k).1), m)
  | [], _ => rfl
  | k :: r, h => by
    have ih := compL_map r fun j hj => h j (List.mem_cons_of_mem _ hj)
    have ea := at_pc (h k List.mem_cons_self)
    have ev : evE (rn n) gl0 none (.ix (.ix (.var 0) (.var 4)) (.con (.int 0))) [some (pcs p), z1, z2, z3, some (.int (k : Int))] m = .ok (.int (pcN p k).1) m := by
      simp! only [pcs, ea, v_at0]
    rw [List.map_cons, compL, y_nm, Option.bind_some]
    show (calmR (evE (rn n) gl0 none (.ix (.ix (.var 0) (.var 4)) (.con (.int 0))) [some (pcs p), z1, z2, z3, some (.int (k : Int))] m)).bind _ = _
    rw [ev]
    show ((compL (.nm 4) [some (pcs p), z1, z2, z3, none] _ (r.map fun (k : Nat) => D.int (k : Int)) m).bind fun q => some (D.int (pcN p k).1 :: q.1, q.2)) = _
    rw [ih]
    rfl
theorem intsD_map : ∀ (l : List Int), intsD (l.map .int) = some l
  | [] => rfl
  | x :: r => by rw [List.map_cons, intsD, intsD_map r]; rfl
theorem sum_ev {m : M} {l : List Int} : biD m .sum [.lst (l.map .int)] = some (.int l.sum) := by
  show (intsD (l.map .int)).map (fun ns => D.int ns.sum) = _
  rw [intsD_map]
  rfl
theorem lefts_lt {n : Nat} {o : List Nat} : ∀ k ∈ lefts n o, k < n := fun k hk => (mem_lefts.mp hk).1
theorem lawcut_run {n : Nat} {p : List Pc} {o : List Nat} {b : Int} {m : M} (h : ∀ q ∈ p, GoodP q) (h8 : p.length ≤ 8) (ho : Pre p.length o) : rn (n + 3) 22 [pcs p, .int b, ords o] m = .ok (.bl (cutP p b o)) m := by
  have e1 := lawlaid_gc (n := n) (m := m) h h8 ho
  have e2 := lawleft_gc (n := n + 1) (o := o) (m := m) h8
  have hL : ((lefts p.length o).map fun (k : Nat) => D.int (k : Int)).length ≤ lim := by rw [List.length_map]; exact lim10 (by have := lefts_len (n := p.length) (o := o); omega)
  have e3 := comp_sz (n := n + 2) (m := m) (z1 := some (.int b)) (z2 := some (ords o)) (z3 := none) (lefts p.length o) lefts_lt
  rw [run__law_cut, r__law_cut]
  simp! only [b__law_cut, e2, y_comp hL, e3, sum_ev, e1, v_at1, cutP, sizes]
  rfl
/-! ## trees -/
def treeD (p : List Pc) (b : Int) : Nat → List Nat → D
  | 0, _ => .tup []
  | f + 1, o => if cutP p b o = true then .tup [] else .tup ((lefts p.length o).map fun k => treeD p b f (o ++ [k]))
theorem pures_map {α : Type} {f : α → D} : ∀ (l : List α), (∀ x ∈ l, pure_ (f x) = true) → pures (l.map f) = true
  | [], _ => rfl
  | x :: r, h => by rw [List.map_cons, pures, h x List.mem_cons_self, pures_map r fun y hy => h y (List.mem_cons_of_mem _ hy)]; rfl
theorem pure_tree {p : List Pc} {b : Int} : ∀ {f : Nat} {o : List Nat}, pure_ (treeD p b f o) = true
  | 0, _ => rfl
  | f + 1, o => by
    rw [treeD]
    split
    · rfl
    · rw [pure_]
      exact pures_map _ fun k _ => pure_tree
theorem lefts_full {n : Nat} {o : List Nat} (h : Pre n o) (hl : o.length = n) : lefts n o = [] := by
  unfold lefts
  rw [List.filter_eq_nil_iff]
  intro k hk
  have hk := List.mem_range.mp hk
  by_cases hm : k ∈ o
  · simp [hm]
  · have h2 := (h.snoc (mem_lefts.mpr ⟨hk, hm⟩)).len
    simp at h2
    omega
theorem lefts_some {n : Nat} {o : List Nat} (h : Pre n o) (hl : o.length < n) : 0 < (lefts n o).length := by
  rcases Nat.eq_zero_or_pos (lefts n o).length with e | e
  · have e := List.eq_nil_of_length_eq_zero e
    exfalso
    have hs : ∀ k ∈ List.range n, k ∈ o := fun k hk => by
      refine Classical.byContradiction fun hm => ?_
      have : k ∈ lefts n o := mem_lefts.mpr ⟨List.mem_range.mp hk, hm⟩
      rw [e] at this; cases this
    have := sub_len List.nodup_range hs
    rw [List.length_range] at this
    omega
  · exact e
theorem tree_run {p : List Pc} {b : Int} {m : M} (h : ∀ q ∈ p, GoodP q) (h8 : p.length ≤ 8) : ∀ (f n : Nat) (o : List Nat), Pre p.length o → o.length + f = p.length → rn (n + 4 + f) 6 [pcs p, .int b, ords o] m = .ok (treeD p b f o) m
  | 0, n, o, ho, hf => by
    have e1 : gcD m (rn (n + 3) 5 [pcs p, .int b, ords o] m) = .ok (.bl (cutP p b o)) m := by
      rw [iscut_run h h8 ho]; exact y_gcP rfl
    have e2 := left_gc (n := n + 2) (o := o) (m := m) h8
    rw [lefts_full ho (by omega)] at e2
    rw [show n + 4 + 0 = (n + 3) + 1 from rfl, run_tree_of, r_tree_of, treeD]
    cases hc : cutP p b o with
    | true =>
      rw [hc] at e1
      simp! only [b_tree_of, e1]
    | false =>
      rw [hc] at e1
      have hL : ([] : List D).length ≤ lim := lim10 (by simp)
      simp! only [b_tree_of, e1, e2, List.map_nil, y_comp hL]
  | f + 1, n, o, ho, hf => by
    have e1 : gcD m (rn (n + 4 + f) 5 [pcs p, .int b, ords o] m) = .ok (.bl (cutP p b o)) m := by
      rw [show n + 4 + f = (n + f + 1) + 3 by omega, iscut_run h h8 ho]; exact y_gcP rfl
    have e2 := left_gc (n := n + 3 + f) (o := o) (m := m) h8
    rw [show n + 3 + f + 1 = n + 4 + f by omega] at e2
    rw [show n + 4 + (f + 1) = (n + 4 + f) + 1 by omega, run_tree_of, r_tree_of, treeD]
    cases hc : cutP p b o with
    | true =>
      rw [hc] at e1
      simp! only [b_tree_of, e1]
    | false =>
      rw [hc] at e1
      have hL : ((lefts p.length o).map fun (k : Nat) => D.int (k : Int)).length ≤ lim := by rw [List.length_map]; exact lim10 (by have := lefts_len (n := p.length) (o := o); omega)
      have e3 := comp_map' (t := .nm 3) (env := [some (pcs p), some (.int b), some (ords o), none]) (te := evE (rn (n + 4 + f)) gl0 none (.callG 6 (.cons (.var 0) (.cons (.var 1) (.cons (.bin .add (.var 2) (.tup (.cons (.var 3) .nil))) .nil))))) (m := m) (fun k : Nat => D.int (k : Int)) (fun k => treeD p b f (o ++ [k])) (lefts p.length o) (by
        intro k hk
        have e4 := tree_run (m := m) (b := b) h h8 f n (o ++ [k]) (ho.snoc hk) (by simp; omega)
        have e5 : gcD m (rn (n + 4 + f) 6 [pcs p, .int b, ords (o ++ [k])] m) = .ok (treeD p b f (o ++ [k])) m := by
          rw [e4]; exact y_gcP pure_tree
        refine ⟨_, y_nm, ?_⟩
        unfold ords at e5 ⊢
        simp! only [ords_snoc (show o.length ≤ 100 by omega), e5])
      simp! only [b_tree_of, e1, e2, y_comp hL, e3]
where comp_map' {t : Tg} {env : Pv.Env} {te : Pv.Env → M → O1} {m : M} (fd fv : Nat → D) : ∀ (l : List Nat), (∀ x, x ∈ l → ∃ e', bindTg m t (fd x) env = some e' ∧ te e' m = .ok (fv x) m) → compL t env te (l.map fd) m = some (l.map fv, m)
  | [], _ => rfl
  | x :: r, h => by
    obtain ⟨e', h1, h2⟩ := h x List.mem_cons_self
    rw [List.map_cons, compL, h1, Option.bind_some, h2]
    show ((compL t env te (r.map fd) m).bind fun q => some (fv x :: q.1, q.2)) = _
    rw [comp_map' fd fv r fun y hy => h y (List.mem_cons_of_mem _ hy)]
    rfl
end Lw

namespace Lw
open PySem Pv
/-! ## equal lists of numbers -/
theorem toPs_ints : ∀ (o : List Int), toPs (o.map D.int) = o.map PyData.int
  | [] => rfl
  | x :: r => by rw [List.map_cons, toPs, toPs_ints r]; rfl
theorem lay_ints : ∀ (o : List Int), PyData.canLayAll0 (o.map PyData.int) = true
  | [] => by simp [PyData.canLayAll0]
  | x :: r => by rw [List.map_cons, PyData.canLayAll0, lay_ints r]; simp [PyData.canLay0]
theorem depth_ints : ∀ (o : List Int), PyData.depthAll (o.map PyData.int) ≤ 1
  | [] => by simp [PyData.depthAll]
  | x :: r => by
    have ih := depth_ints r
    rw [List.map_cons, PyData.depthAll]
    simp only [PyData.depth]
    omega
theorem eqv_ints : ∀ (o : List Int), PyData.eqvAll (o.map PyData.int) (o.map PyData.int) = true
  | [] => by simp [PyData.eqvAll]
  | x :: r => by rw [List.map_cons, PyData.eqvAll, eqv_ints r]; simp [PyData.eqv]
theorem eq_lst {m : M} {o : List Int} : cmpM m .eq (.lst (o.map .int)) (.lst (o.map .int)) = some true := by
  have hd := depth_ints o
  have ok : eqOk (.lst (o.map .int)) (.lst (o.map .int)) = true := by
    unfold eqOk
    simp only [toP, toPs_ints, PyData.canLay0, lay_ints, pure_, pures_int, PyData.depth, Bool.and_self, Bool.true_and, decide_eq_true_eq]
    omega
  show (if eqOk (.lst (o.map .int)) (.lst (o.map .int)) = true then some (PyData.eqv (toP (.lst (o.map .int))) (toP (.lst (o.map .int)))) else none) = _
  rw [if_pos ok]
  simp only [toP, toPs_ints, PyData.eqv, eqv_ints]
theorem eq_tup {m : M} {o : List Int} : cmpM m .eq (.tup (o.map .int)) (.tup (o.map .int)) = some true := by
  have hd := depth_ints o
  have ok : eqOk (.tup (o.map .int)) (.tup (o.map .int)) = true := by
    unfold eqOk
    simp only [toP, toPs_ints, PyData.canLay0, lay_ints, pure_, pures_int, PyData.depth, Bool.and_self, Bool.true_and, decide_eq_true_eq]
    omega
  show (if eqOk (.tup (o.map .int)) (.tup (o.map .int)) = true then some (PyData.eqv (toP (.tup (o.map .int))) (toP (.tup (o.map .int)))) else none) = _
  rw [if_pos ok]
  simp only [toP, toPs_ints, PyData.eqv, eqv_ints]
theorem nat_ints (o : List Nat) : (o.map fun (k : Nat) => D.int (k : Int)) = (o.map fun (k : Nat) => (k : Int)).map D.int := by rw [List.map_map]; rfl
theorem eq_ords {m : M} {o : List Nat} : cmpM m .eq (.tup (o.map fun (k : Nat) => .int (k : Int))) (.tup (o.map fun (k : Nat) => .int (k : Int))) = some true := by
  rw [nat_ints]; exact eq_tup
theorem ne_lst {m : M} {o : List Int} : cmpM m .ne (.lst (o.map .int)) (.lst (o.map .int)) = some false := by
  show (cmpM m .eq (.lst (o.map .int)) (.lst (o.map .int))).map (!·) = _
  rw [eq_lst]; rfl
/-! ## the first of the least -/
theorem best_ok (f : Nat → Int) : ∀ k, argBest (fun i j => decide (f i < f j)) k ≤ k ∧ (∀ j, j ≤ k → f (argBest (fun i j => decide (f i < f j)) k) ≤ f j) ∧ ∀ j, j < argBest (fun i j => decide (f i < f j)) k → f (argBest (fun i j => decide (f i < f j)) k) < f j
  | 0 => ⟨Nat.le_refl _, fun j hj => by rw [show j = 0 by omega]; exact Int.le_refl _, fun j hj => absurd hj (Nat.not_lt_zero j)⟩
  | k + 1 => by
    obtain ⟨h1, h2, h3⟩ := best_ok f k
    generalize hb : argBest (fun i j => decide (f i < f j)) k = b at h1 h2 h3
    have e : argBest (fun i j => decide (f i < f j)) (k + 1) = if f (k + 1) < f b then k + 1 else b := by
      rw [argBest, hb]
      simp
    rw [e]
    split
    · rename_i hlt
      refine ⟨Nat.le_refl _, fun j hj => ?_, fun j hj => ?_⟩
      · by_cases e : j = k + 1
        · rw [e]; exact Int.le_refl _
        · have := h2 j (by omega); omega
      · have := h2 j (by omega); omega
    · rename_i hlt
      refine ⟨by omega, fun j hj => ?_, h3⟩
      by_cases e : j = k + 1
      · rw [e]; omega
      · exact h2 j (by omega)
theorem minKs_map {α : Type} {rk : Pv.Env → M → O1} {env : Pv.Env} {i : Nat} {m : M} (fd : α → D) (g : α → Int) : ∀ (l : List α), (∀ x, x ∈ l → rk (env.set i (some (fd x))) m = .ok (.int (g x)) m) → minKs rk env i m (l.map fd) = some (l.map g)
  | [], _ => rfl
  | x :: r, h => by
    have ih := minKs_map (i := i) fd g r fun y hy => h y (List.mem_cons_of_mem _ hy)
    rw [List.map_cons, minKs, h x List.mem_cons_self]
    simp only [↓reduceIte, Option.bind_some]
    rw [ih]
    rfl
theorem fold_min : ∀ (r : List Int) (n : Int), (r.foldl (fun a b => if b < a then b else a) n ≤ n ∧ ∀ x ∈ r, r.foldl (fun a b => if b < a then b else a) n ≤ x) ∧ (r.foldl (fun a b => if b < a then b else a) n = n ∨ r.foldl (fun a b => if b < a then b else a) n ∈ r)
  | [], n => ⟨⟨Int.le_refl _, fun _ h => (nomatch h)⟩, .inl rfl⟩
  | x :: r, n => by
    obtain ⟨⟨h1, h2⟩, h3⟩ := fold_min r (if x < n then x else n)
    rw [List.foldl_cons]
    generalize r.foldl (fun a b => if b < a then b else a) (if x < n then x else n) = v at h1 h2 h3
    refine ⟨⟨?_, fun y hy => ?_⟩, ?_⟩
    · split at h1 <;> omega
    · rcases List.mem_cons.mp hy with rfl | hy
      · split at h1 <;> omega
      · exact h2 y hy
    · rcases h3 with h3 | h3
      · split at h3
        · exact .inr (by rw [h3]; exact List.mem_cons_self)
        · exact .inl h3
      · exact .inr (List.mem_cons_of_mem _ h3)
theorem least_of {ns : List Int} {v : Int} (hm : v ∈ ns) (hl : ∀ x ∈ ns, v ≤ x) : leastD ns = some v := by
  cases ns with
  | nil => cases hm
  | cons n r =>
    obtain ⟨⟨h1, h2⟩, h3⟩ := fold_min r n
    show some _ = _
    congr 1
    have a1 : v ≤ r.foldl (fun a b => if b < a then b else a) n := by
      rcases h3 with h3 | h3
      · rw [h3]; exact hl n List.mem_cons_self
      · exact hl _ (List.mem_cons_of_mem _ h3)
    have a2 : r.foldl (fun a b => if b < a then b else a) n ≤ v := by
      rcases List.mem_cons.mp hm with rfl | hm
      · exact h1
      · exact h2 v hm
    omega
/-- minBest, among numbers -/
theorem best_of {ns : List Int} (h0 : 0 < ns.length) : ∃ h : minBest ns < ns.length, (∀ x ∈ ns, ns[minBest ns] ≤ x) ∧ ∀ (j : Nat) (hj : j < minBest ns), ns[minBest ns] < ns[j]'(Nat.lt_trans hj h) := by
  obtain ⟨h1, h2, h3⟩ := best_ok (fun i => ns.getD i 0) (ns.length - 1)
  have hb : argBest (fun i j => decide (ns.getD i 0 < ns.getD j 0)) (ns.length - 1) = minBest ns := rfl
  simp only [hb] at h1 h2 h3
  have hlt : minBest ns < ns.length := by omega
  have hg : ∀ (j : Nat) (hj : j < ns.length), ns.getD j 0 = ns[j] := fun j hj => by simp [hj]
  refine ⟨hlt, fun x hx => ?_, fun j hj => ?_⟩
  · obtain ⟨j, hj, rfl⟩ := List.getElem_of_mem hx
    have := h2 j (by omega)
    rw [hg _ hlt, hg _ hj] at this
    exact this
  · have := h3 j hj
    rw [hg _ hlt, hg _ (by omega)] at this
    exact this
theorem index_best {m : M} {ns : List Int} (h0 : 0 < ns.length) : ∃ h : minBest ns < ns.length, biD m .min1 [.lst (ns.map .int)] = some (.int ns[minBest ns]) ∧ indexD m (.lst (ns.map .int)) (.int ns[minBest ns]) = some (.int ((minBest ns : Nat) : Int)) := by
  obtain ⟨h, h1, h2⟩ := best_of h0
  refine ⟨h, ?_, ?_⟩
  · show ((intsD (ns.map .int)).bind fun ns => (leastD ns).map D.int) = _
    rw [intsD_map, Option.bind_some, least_of (List.getElem_mem h) h1]
    rfl
  · have hfl : ∀ (l : List Int), (l.map D.int).all flatD = true := fun l => by simp [flatD]
    show (if flatD (.int ns[minBest ns]) && (ns.map D.int).all flatD then ((ns.map D.int).findIdx? fun z => eqF z (.int ns[minBest ns])).map fun (j : Nat) => D.int (j : Int) else none) = _
    rw [hfl]
    have : ((ns.map D.int).findIdx? fun z => eqF z (.int ns[minBest ns])) = some (minBest ns) := by
      rw [List.findIdx?_eq_some_iff_getElem]
      refine ⟨by rw [List.length_map]; exact h, ?_, fun j hj => ?_⟩
      · rw [List.getElem_map]
        show ((ns[minBest ns] : Int) == ns[minBest ns]) = true
        simp
      · rw [List.getElem_map]
        have := h2 j hj
        show ¬ ((ns[j] : Int) == ns[minBest ns]) = true
        simp
        omega
    rw [this]
    rfl
/-! ## sorted -/
theorem sort_of {n : Nat} {o : List Nat} (h : Pre n o) (hl : o.length = n) : sortD (o.map fun (k : Nat) => (k : Int)) = (List.range n).map fun (k : Nat) => (k : Int) := by
  have hp : o.Perm (List.range n) := by
    refine (List.perm_ext_iff_of_nodup h.nd List.nodup_range).mpr fun a => ⟨fun ha => List.mem_range.mpr (h.lt a ha), fun ha => ?_⟩
    refine Classical.byContradiction fun hm => ?_
    have h2 := (h.snoc (mem_lefts.mpr ⟨List.mem_range.mp ha, hm⟩)).len
    simp at h2
    omega
  have h1 : (sortD (o.map fun (k : Nat) => (k : Int))).Perm ((List.range n).map fun (k : Nat) => (k : Int)) := (List.mergeSort_perm _ _).trans (hp.map _)
  refine List.Perm.eq_of_pairwise (le := fun a b : Int => a ≤ b) (fun a b _ _ x y => Int.le_antisymm x y) ?_ ?_ h1
  · have := List.pairwise_mergeSort (le := fun a b : Int => decide (a ≤ b)) (fun a b c h1 h2 => by simp at h1 h2 ⊢; omega) (fun a b => by simp; omega) (o.map fun (k : Nat) => (k : Int))
    exact this.imp fun h => by simpa using h
  · rw [List.pairwise_map]
    exact List.pairwise_lt_range.imp fun h => by omega
end Lw

namespace Lw
open PySem Pv
/-! ## the paper that fewest tells -/
def keysP (p : List Pc) : List Int := (iterO p.length p.length).map fun o => (laidP p o).2
def bestO (p : List Pc) : List Nat := (iterO p.length p.length).getD (minBest (keysP p)) []
def bitsP (p : List Pc) : Int := (laidP p (bestO p)).2
def paperD (p : List Pc) : D := .tup [.int (bitsP p), ords (bestO p), treeD p (bitsP p) p.length []]
theorem full_mem {n : Nat} : List.range n ∈ iterO n n := mem_iterO.mpr ⟨by simp, List.nodup_range, fun k hk => List.mem_range.mp hk⟩
theorem keys_pos {p : List Pc} : 0 < (keysP p).length := by
  unfold keysP
  rw [List.length_map]
  exact List.length_pos_of_mem full_mem
theorem best_at {p : List Pc} : ∃ h : minBest (keysP p) < (iterO p.length p.length).length, bestO p = (iterO p.length p.length)[minBest (keysP p)] := by
  obtain ⟨h, _⟩ := best_of (keys_pos (p := p))
  have h' : minBest (keysP p) < (iterO p.length p.length).length := by
    unfold keysP at h
    rwa [List.length_map] at h
  exact ⟨h', by simp [bestO, h']⟩
theorem best_pre {p : List Pc} : Pre p.length (bestO p) ∧ (bestO p).length = p.length := by
  obtain ⟨h, e⟩ := best_at (p := p)
  have := List.getElem_mem h
  rw [← e] at this
  obtain ⟨h1, h2⟩ := mem_iterO.mp this
  exact ⟨h2, h1⟩
theorem best_key {p : List Pc} (h : minBest (keysP p) < (keysP p).length) : (keysP p)[minBest (keysP p)] = bitsP p := by
  obtain ⟨h', e⟩ := best_at (p := p)
  unfold bitsP
  rw [e]
  simp [keysP]
theorem bits_le {p : List Pc} {o : List Nat} (h : Pre p.length o) (hl : o.length = p.length) : bitsP p ≤ (laidP p o).2 := by
  obtain ⟨h1, h2, _⟩ := best_of (keys_pos (p := p))
  have := h2 (laidP p o).2 (List.mem_map.mpr ⟨o, mem_iterO.mpr ⟨hl, h⟩, rfl⟩)
  rwa [best_key h1] at this
theorem cut_full {p : List Pc} {o : List Nat} (h : Pre p.length o) (hl : o.length = p.length) : cutP p (bitsP p) o = true := by
  have := bits_le h hl
  unfold cutP
  rw [lefts_full h hl]
  simp [sizes]
  exact this
theorem bits_gc {n : Nat} {p : List Pc} {o : List Nat} {m : M} (h : ∀ q ∈ p, GoodP q) (h8 : p.length ≤ 8) (ho : Pre p.length o) : gcD m (rn (n + 3) 2 [pcs p, ords o] m) = .ok (.int (laidP p o).2) m := by
  rw [bits_run h h8 ho.lt (by have := ho.len; omega)]
  exact y_gcP rfl
theorem pure_ords {o : List Nat} : pure_ (ords o) = true := by unfold ords; rw [pure_]; exact pures_of' _
theorem paper_pure {p : List Pc} : pure_ (paperD p) = true := by
  unfold paperD
  simp only [pure_, pures, pure_ords, pure_tree, Bool.and_self]
theorem all_tups : ∀ (l : List (List Nat)), (l.map ords).all isTupD = true
  | [] => rfl
  | x :: r => by rw [List.map_cons, List.all_cons, all_tups r]; rfl
theorem fewest_run {n : Nat} {p : List Pc} {m : M} (h : ∀ q ∈ p, GoodP q) (h5 : p.length ≤ 5) : rn (n + 10) 7 [pcs p] m = .ok (paperD p) m := by
  obtain ⟨hp, hl⟩ := best_pre (p := p)
  have e1 : gcD m (rn (n + 9) 3 [.int (p.length : Int)] m) = .ok (.lst ((iterO p.length p.length).map ords)) m := by
    rw [orders_run (n := n + 8) h5]
    exact y_gcP (by rw [pure_]; exact pures_map _ fun o _ => pure_ords)
  have hk : minKs (evE (rn (n + 9)) gl0 none (.callG 2 (.cons (.var 0) (.cons (.var 2) .nil)))) [some (pcs p), none, none, none] 2 m ((iterO p.length p.length).map ords) = some (keysP p) := by
    refine minKs_map ords _ _ fun o ho => ?_
    obtain ⟨h1, h2⟩ := mem_iterO.mp ho
    have e := bits_gc (n := n + 6) (m := m) h (by omega) h2
    simp! only [e]
  obtain ⟨hb, eb⟩ := best_at (p := p)
  have hz : ((iterO p.length p.length).map ords)[minBest (keysP p)]? = some (ords (bestO p)) := by
    rw [eb, List.getElem?_map, List.getElem?_eq_getElem hb]
    rfl
  have e2 := v_minK (F := rn (n + 9)) (G := gl0) (cx := none) (by rw [List.length_map]; omega) (all_tups _) hk hz
  have e3 := bits_gc (n := n + 6) (m := m) h (by omega) hp
  have e4 : gcD m (rn (n + 9) 6 [pcs p, .int (bitsP p), .tup []] m) = .ok (treeD p (bitsP p) p.length []) m := by
    show gcD m (rn (n + 9) 6 [pcs p, .int (bitsP p), ords []] m) = _
    rw [show n + 9 = (n + 5 - p.length) + 4 + p.length by omega, tree_run h (by omega) p.length _ [] .nil (by simp)]
    exact y_gcP pure_tree
  rw [run_fewest, r_fewest]
  have hlen : ∀ mm : M, biD mm .len [pcs p] = some (.int (p.length : Int)) := fun mm => by
    show (lenD mm (pcs p)).map D.int = _
    unfold pcs
    simp [lenD, deref]
  rw [show (laidP p (bestO p)).2 = bitsP p from rfl] at e3
  simp! only [b_fewest, hlen, e1, e2, e3, e4, paperD]
end Lw

namespace Lw
open PySem Pv
/-! ## the memory: the drawn list, then what is boxed -/
theorem mem_app {s : Dk} {g l : M} : mem s g ++ l = mem s (g ++ l) := rfl
theorem mem_len {s : Dk} {g : M} : (mem s g).length = g.length + 2 := rfl
theorem mem_at {s : Dk} {g r : M} {x : MO} : (mem s (g ++ x :: r))[g.length + 2]? = some x := by
  show (g ++ x :: r)[g.length]? = some x
  simp
theorem mem_set {s : Dk} {g r : M} {x y : MO} : (mem s (g ++ x :: r)).set (g.length + 2) y = mem s (g ++ y :: r) := by
  show MO.lst _ :: MO.lst _ :: (g ++ x :: r).set g.length y = _
  simp [mem]
theorem keptM {s s' : Dk} {g g' : M} : keptB (mem s g) (mem s' (g ++ g')) = true := by
  unfold keptB
  simp only [Bool.and_eq_true, decide_eq_true_eq, List.all_eq_true, Bool.or_eq_true, mem_len, List.length_append]
  refine ⟨by omega, fun i hi => ?_⟩
  have hi := List.mem_range.mp hi
  have hin : ∀ (l : List Int) (n : Nat), belows n (l.map .int) = true := by
    intro l n
    induction l with
    | nil => rfl
    | cons a r ih => simp only [List.map_cons, belows, below, ih, Bool.and_self]
  match i, hi with
  | 0, _ => exact .inr (hin _ _)
  | 1, _ => right; simp [mem, belowO, belows, below, hin]
  | i + 2, hi =>
    left
    show (g ++ g')[i]? = g[i]?
    rw [List.getElem?_append_left (by omega)]
theorem gcM {s s' : Dk} {g g' : M} {d : D} (h : pure_ d = true) : gcD (mem s g) (.ok d (mem s' (g ++ g'))) = .ok d (mem s' g) := by
  show (if (keptB (mem s g) (mem s' (g ++ g')) && below (mem s g).length d) = true then Rz.ok d ((mem s' (g ++ g')).take (mem s g).length) else .no) = _
  rw [keptM, pure_below h]
  simp only [Bool.and_self, if_true, mem_len]
  congr 1
  simp [mem]
theorem erase_map {α β : Type} (f : α → β) : ∀ (l : List α) (d : Nat), (l.map f).eraseIdx d = (l.eraseIdx d).map f
  | [], _ => rfl
  | x :: r, 0 => rfl
  | x :: r, d + 1 => by simp only [List.map_cons, List.eraseIdx_cons_succ, erase_map f r d]
theorem perm_erase {α : Type} : ∀ (l : List α) (d : Nat) (h : d < l.length), (l[d] :: l.eraseIdx d).Perm l
  | x :: r, 0, _ => List.Perm.refl _
  | x :: r, d + 1, h => by
    have h' : d < r.length := by simpa using h
    show (r[d] :: x :: r.eraseIdx d).Perm (x :: r)
    exact (List.Perm.swap _ _ _).trans ((perm_erase r d h').cons x)
theorem v_popR {m : M} {l k : Nat} {xs : List D} {y : D} (h : m[l]? = some (.lst xs)) (hk : xs[k]? = some y) (hs : k < 1000000) : popAtM m (.ref l) (.int (k : Int)) = .ok y (m.set l (.lst (xs.eraseIdx k))) := by
  have e1 := ixAt_nat (List.getElem?_eq_some_iff.mp hk).1
  have e2 : (decide (-(2 ^ 63) ≤ (k : Int)) && decide ((k : Int) < 2 ^ 63)) = true := by simp only [Bool.and_eq_true, decide_eq_true_eq]; omega
  simp only [popAtM, h, e1, hk, e2, if_true]
def kD (k : Nat) : D := .int (k : Int)
/-! ## any order -/
theorem order_run {n : Nat} (s : Dk) (h : s.Ok) (hk : s.k + 100 < 2 ^ 40) (N : Nat) (hm : N ≤ 8) (g : M) :
    ∃ (os : List Nat) (s' : Dk), gcD (mem s g) (rn (n + 2) 18 [.ref 1, .int N] (mem s g)) = .ok (ords os) (mem s' g) ∧ Pre N os ∧ os.length = N ∧ s'.k ≤ s.k + 8 ∧ s'.Ok := by
  have hr : rgOk (N : Int) = true := rgOk_of (by omega) (by omega)
  have hx : ∃ (os : List Nat) (s' : Dk), rn (n + 2) 18 [.ref 1, .int N] (mem s g) = .ok (ords os) (mem s' (g ++ [.lst []])) ∧ os.Perm (List.range N) ∧ s'.k ≤ s.k + 8 ∧ s'.Ok := by
    rw [run__law_any_order, r__law_any_order]
    obtain ⟨env', m', hc, os, left, s', hp, hl, x, rfl, rfl, hk', ok'⟩ := for_ok (t := .nm 4) (tb := evB (rn (n + 1)) gl0 xf0 l__law_any_order_0 none)
      (fun i env m => ∃ (os left : List Nat) (s' : Dk), (os ++ left).Perm (List.range N) ∧ os.length = i ∧ ∃ x, env = [some (.ref 1), some (.int N), some (.ref (g.length + 2)), some (.tup (os.map kD)), x] ∧ m = mem s' (g ++ [.lst (left.map kD)]) ∧ s'.k = s.k + i ∧ s'.Ok)
      (rangeD 0 N) [some (.ref 1), some (.int N), some (.ref (g.length + 2)), some (.tup []), none] (mem s (g ++ [.lst (rangeD 0 N)])) ⟨[], List.range N, s, by simp, rfl, none, rfl, by rw [rangeD_nat]; rfl, rfl, h⟩ (by
        rintro i hi env m ⟨os, left, s', hp, hl, x, rfl, rfl, hk', ok'⟩
        rw [rangeD_len] at hi
        have hlen := hp.length_eq
        simp only [List.length_append, List.length_range] at hlen
        obtain ⟨d1, s1, e1, p1, q1, k1, o1⟩ := next_run (n := n) s' ok' (by omega) (left.length : Int) (by omega) (by omega) (g ++ [.lst (left.map kD)])
        obtain ⟨d, rfl⟩ := Int.eq_ofNat_of_zero_le p1
        have hd : d < left.length := by omega
        have e0 : biD (mem s' (g ++ [.lst (left.map kD)])) .len [.ref (g.length + 2)] = some (.int (left.length : Int)) := by
          rw [v_lenR mem_at]; simp
        have e3 : popAtM (mem s1 (g ++ [.lst (left.map kD)])) (.ref (g.length + 2)) (.int (d : Int)) = .ok (kD left[d]) (mem s1 (g ++ [.lst ((left.eraseIdx d).map kD)])) := by
          rw [v_popR (k := d) (y := kD left[d]) mem_at (by simp [hd]) (by omega), mem_set, erase_map]
        have hcl : (os.map kD).length + [kD left[d]].length ≤ lim := lim10 (by simp; omega)
        refine ⟨_, [some (.ref 1), some (.int N), some (.ref (g.length + 2)), some (.tup ((os ++ [left[d]]).map kD)), some (rangeD 0 N)[i]], mem s1 (g ++ [.lst ((left.eraseIdx d).map kD)]), y_nm, ?_, os ++ [left[d]], left.eraseIdx d, s1, ?_, by simp [hl], _, rfl, rfl, by omega, o1⟩
        · simp! only [l__law_any_order_0, e0, e1, e3, v_catT hcl, List.map_append]
          rfl
        · rw [List.append_assoc]
          exact (List.Perm.append_left os (perm_erase left d hd)).trans hp)
    rw [rangeD_len] at hl hk'
    have hlen := hp.length_eq
    simp only [List.length_append, List.length_range] at hlen
    have hl0 : left = [] := List.length_eq_zero_iff.mp (by omega)
    subst hl0
    refine ⟨os, s', ?_, by simpa using hp, by omega, ok'⟩
    have hN : (N : Int).toNat ≤ lim := lim10 (by omega)
    simp! only [b__law_any_order, y_listRg hr hN, y_rng1 hr, Int.toNat_natCast, y_box, mem_len, mem_app, hc]
    rfl
  obtain ⟨os, s', e, hp, k', o'⟩ := hx
  refine ⟨os, s', ?_, ⟨hp.nodup_iff.mpr List.nodup_range, fun k hk => List.mem_range.mp (hp.mem_iff.mp hk)⟩, by rw [hp.length_eq, List.length_range], k', o'⟩
  rw [e]
  exact gcM pure_ords
/-! ## a placing with gaps -/
theorem up_mono {e e' b : Int} (hb : 0 < b) (h : e ≤ e') : up e b ≤ up e' b := by
  unfold up
  exact Int.mul_le_mul_of_nonneg_right (Int.ediv_le_ediv hb (by omega)) (by omega)
theorem scattered_run {n : Nat} {p : List Pc} (hp : ∀ q ∈ p, GoodP q) (h8 : p.length ≤ 8) {o : List Nat} (ho : Pre p.length o) (s : Dk) (h : s.Ok) (hk : s.k + 100 < 2 ^ 40) (g : M) :
    ∃ (e : Int) (s' : Dk), rn (n + 2) 24 [.ref 1, pcs p, ords o] (mem s g) = .ok (.int e) (mem s' g) ∧ (laidP p o).2 ≤ e ∧ s'.k ≤ s.k + 9 ∧ s'.Ok := by
  have hol := ho.len
  obtain ⟨l, s1, e1, l0, l1, k1, o1⟩ := next_run (n := n) s h (by omega) 4 (by decide) (by decide) g
  rw [run__law_scattered, r__law_scattered]
  obtain ⟨env', m', hc, e, s', z5, z6, z7, rfl, rfl, hle, hk', ok'⟩ := for_ok (t := .nm 5) (tb := evB (rn (n + 1)) gl0 xf0 l__law_scattered_0 none)
    (fun i env m => ∃ (e : Int) (s' : Dk) (z5 z6 z7 : Option D), env = [some (.ref 1), some (pcs p), some (ords o), some (.int e), some (.int l), z5, z6, z7] ∧ m = mem s' g ∧ ((o.take i).foldl (stepL p) (List.replicate p.length 0, 0)).2 ≤ e ∧ s'.k ≤ s1.k + i ∧ s'.Ok)
    (o.map fun (k : Nat) => .int (k : Int)) [some (.ref 1), some (pcs p), some (ords o), some (.int 0), some (.int l), none, none, none] (mem s1 g) ⟨0, s1, none, none, none, rfl, rfl, Int.le_refl _, Nat.le_refl _, o1⟩ (by
      rintro i hi env m ⟨e, s', z5, z6, z7, rfl, rfl, hle, hk', ok'⟩
      have hi' : i < o.length := by simpa using hi
      have hk : o[i] < p.length := ho.lt _ (List.getElem_mem hi')
      have gp := good_pc hp hk
      have et : o.take (i + 1) = o.take i ++ [o[i]] := (List.take_append_getElem hi').symm
      have el : (o.map fun (k : Nat) => D.int (k : Int))[i] = .int (o[i] : Int) := by simp
      rw [el, et, List.foldl_append, List.foldl_cons, List.foldl_nil]
      generalize (o.take i).foldl (stepL p) (List.replicate p.length 0, 0) = st at hle ⊢
      generalize o[i] = k at hk gp ⊢
      have ea := at_pc hk
      have hst : (stepL p st k).2 = if 0 < (pcN p k).1 then up st.2 (pcN p k).2 + (pcN p k).1 else st.2 := by
        unfold stepL
        split <;> rfl
      rw [hst]
      generalize pcN p k = q at gp ea ⊢
      obtain ⟨mn, b⟩ := q
      obtain ⟨_, b0, b1, _⟩ := by_div gp.c
      by_cases hm : 0 < mn
      · obtain ⟨d, s2, e2, d0, d1, k2, o2⟩ := next_run (n := n) s' ok' (by omega) (1 + l) (by omega) (by omega) g
        have hd2 : 0 ≤ d / 2 := by omega
        have b0 : 0 < b := b0
        have hbd : 0 ≤ b * (d / 2) := Int.mul_nonneg (by omega) hd2
        have b1 : b ≤ 64 := b1
        have hu : up st.2 b ≤ up e b := up_mono b0 hle
        have hm : 0 < mn := hm
        rw [if_pos hm]
        refine ⟨_, [some (.ref 1), some (pcs p), some (ords o), some (.int (up e b + b * (d / 2) + mn)), some (.int l), some (.int (k : Int)), some (.int mn), some (.int b)], mem s2 g, y_nm, ?_, up e b + b * (d / 2) + mn, s2, _, _, _, rfl, rfl, by show up st.2 b + mn ≤ _; omega, by omega, o2⟩
        simp! only [l__law_scattered_0, pcs, ea, hm, lawup_run (n := n) (e := e) gp.c, e2, v_fdiv (show divOk 2 = true by decide), v_mul (mulOk_l (i := b) (j := d / 2) (by omega) (by omega))]
      · rw [if_neg hm]
        refine ⟨_, [some (.ref 1), some (pcs p), some (ords o), some (.int e), some (.int l), some (.int (k : Int)), some (.int mn), some (.int b)], mem s' g, y_nm, ?_, e, s', _, _, _, rfl, rfl, hle, by omega, ok'⟩
        simp! only [l__law_scattered_0, pcs, ea, hm])
  rw [List.length_map] at hk'
  rw [List.length_map, List.take_length] at hle
  refine ⟨e, s', ?_, hle, by omega, ok'⟩
  have hsq : seqI (ords o) = some (o.map fun (k : Nat) => .int (k : Int)) := rfl
  simp! only [b__law_scattered, e1, hsq, hc]
end Lw

namespace Lw
open PySem Pv
/-! ## the law's own tree -/
theorem lawcut_gc {n : Nat} {p : List Pc} {o : List Nat} {b : Int} {m : M} (h : ∀ q ∈ p, GoodP q) (h8 : p.length ≤ 8) (ho : Pre p.length o) : gcD m (rn (n + 3) 22 [pcs p, .int b, ords o] m) = .ok (.bl (cutP p b o)) m := by
  rw [lawcut_run h h8 ho]; exact y_gcP rfl
theorem lawtree_run {p : List Pc} {b : Int} (hp : ∀ q ∈ p, GoodP q) (h5 : p.length ≤ 5) : ∀ (f n : Nat) (o : List Nat), Pre p.length o → o.length + f = p.length → ∀ (s : Dk) (g : M), s.Ok → s.k + 10 ^ f < 2 ^ 40 →
    ∃ s' : Dk, rn (n + 4 + f) 23 [.ref 1, pcs p, .int b, ords o, .int 1] (mem s g) = .ok (treeD p b f o) (mem s' g) ∧ s'.k ≤ s.k + 10 ^ f ∧ s'.Ok
  | 0, n, o, ho, hf, s, g, ok, hk => by
    have he : ((o.length : Int) = (p.length : Int)) = True := by simp; omega
    refine ⟨s, ?_, by omega, ok⟩
    rw [show n + 4 + 0 = (n + 3) + 1 from rfl, run__law_tree, r__law_tree, treeD]
    simp! only [b__law_tree, ords, pcs, List.length_map, he]
  | f + 1, n, o, ho, hf, s, g, ok, hk => by
    have he : ((o.length : Int) = (p.length : Int)) = False := by simp; omega
    have e1 := lawcut_gc (n := n + f + 1) (b := b) (m := mem s g) hp (by omega) ho
    rw [show n + f + 1 + 3 = n + 4 + f by omega] at e1
    have h10 : 10 ^ (f + 1) = 10 ^ f * 10 := Nat.pow_succ ..
    have hp10 : 0 < 10 ^ f := Nat.pow_pos (by decide)
    rw [show n + 4 + (f + 1) = (n + 4 + f) + 1 by omega, run__law_tree, r__law_tree, treeD]
    cases hc : cutP p b o with
    | true =>
      rw [hc] at e1
      obtain ⟨d, s1, e2, d0, d1, k1, o1⟩ := next_run (n := n + 3 + f) s ok (by omega) 1 (by decide) (by decide) g
      obtain rfl : d = 0 := by omega
      rw [show n + 3 + f + 1 = n + 4 + f by omega] at e2
      refine ⟨s1, ?_, by omega, o1⟩
      unfold ords pcs at e1
      simp! only [b__law_tree, ords, pcs, List.length_map, he, e1, e2]
    | false =>
      rw [hc] at e1
      have e2 := lawleft_gc (n := n + 3 + f) (p := p) (o := o) (m := mem s g) (by omega)
      rw [show n + 3 + f + 1 = n + 4 + f by omega] at e2
      have hll := lefts_len (n := p.length) (o := o)
      have hL : ((lefts p.length o).map fun (k : Nat) => D.int (k : Int)).length ≤ lim := by rw [List.length_map]; exact lim10 (by omega)
      have key : ∀ (l : List Nat), (∀ k ∈ l, k ∈ lefts p.length o) → ∀ s : Dk, s.Ok → s.k + l.length * 10 ^ f < 2 ^ 40 → ∃ s' : Dk, compL (.nm 6) [some (.ref 1), some (pcs p), some (.int b), some (ords o), some (.int 1), some (.lst ((lefts p.length o).map fun (k : Nat) => D.int (k : Int))), none] (evE (rn (n + 4 + f)) gl0 none (.call 23 (.cons (.var 0) (.cons (.var 1) (.cons (.var 2) (.cons (.bin .add (.var 3) (.tup (.cons (.var 6) .nil))) (.cons (.var 4) .nil))))))) (l.map fun (k : Nat) => D.int (k : Int)) (mem s g) = some (l.map fun k => treeD p b f (o ++ [k]), mem s' g) ∧ s'.k ≤ s.k + l.length * 10 ^ f ∧ s'.Ok := by
        intro l
        induction l with
        | nil => exact fun _ s ok _ => ⟨s, rfl, by omega, ok⟩
        | cons k r ih =>
          intro hl s ok hk
          rw [List.length_cons, Nat.add_mul, Nat.one_mul] at hk
          obtain ⟨s1, e3, k1, o1⟩ := lawtree_run (b := b) hp h5 f n (o ++ [k]) (ho.snoc (hl k List.mem_cons_self)) (by simp; omega) s g ok (by omega)
          obtain ⟨s2, e4, k2, o2⟩ := ih (fun j hj => hl j (List.mem_cons_of_mem _ hj)) s1 o1 (by omega)
          refine ⟨s2, ?_, by rw [List.length_cons, Nat.add_mul, Nat.one_mul]; omega, o2⟩
          have ev : evE (rn (n + 4 + f)) gl0 none (.call 23 (.cons (.var 0) (.cons (.var 1) (.cons (.var 2) (.cons (.bin .add (.var 3) (.tup (.cons (.var 6) .nil))) (.cons (.var 4) .nil)))))) [some (.ref 1), some (pcs p), some (.int b), some (ords o), some (.int 1), some (.lst ((lefts p.length o).map fun (k : Nat) => D.int (k : Int))), some (.int (k : Int))] (mem s g) = .ok (treeD p b f (o ++ [k])) (mem s1 g) := by
            unfold ords at e3 ⊢
            simp! only [ords_snoc (show o.length ≤ 100 by omega), e3]
          rw [List.map_cons, compL, y_nm, Option.bind_some]
          show (calmR (evE (rn (n + 4 + f)) gl0 none (.call 23 (.cons (.var 0) (.cons (.var 1) (.cons (.var 2) (.cons (.bin .add (.var 3) (.tup (.cons (.var 6) .nil))) (.cons (.var 4) .nil)))))) [some (.ref 1), some (pcs p), some (.int b), some (ords o), some (.int 1), some (.lst ((lefts p.length o).map fun (k : Nat) => D.int (k : Int))), some (.int (k : Int))] (mem s g))).bind _ = _
          rw [ev]
          show ((compL (.nm 6) _ _ (r.map fun (k : Nat) => D.int (k : Int)) (mem s1 g)).bind fun q => some (treeD p b f (o ++ [k]) :: q.1, q.2)) = _
          rw [e4]
          rfl
      have hm : (lefts p.length o).length * 10 ^ f ≤ 5 * 10 ^ f := Nat.mul_le_mul_right _ (by omega)
      obtain ⟨s1, e3, k1, o1⟩ := key (lefts p.length o) (fun _ h => h) s ok (by omega)
      refine ⟨s1, ?_, by omega, o1⟩
      unfold ords pcs at e1 e2 e3
      simp! only [b__law_tree, ords, pcs, List.length_map, he, e1, e2, y_comp hL, e3]
/-! ## why a tree tells the least -/
theorem le_up {e b : Int} (hb : 0 < b) : e ≤ up e b := by
  unfold up
  have h1 := Int.emod_add_mul_ediv (e + b - 1) b
  have h2 := Int.emod_lt_of_pos (e + b - 1) hb
  rw [Int.mul_comm] at h1
  omega
theorem perm_sum {f : Nat → Int} {a b : List Nat} (h : a.Perm b) : (a.map f).sum = (b.map f).sum := by
  induction h with
  | nil => rfl
  | cons x _ ih => simp only [List.map_cons, List.sum_cons, ih]
  | swap x y l => simp only [List.map_cons, List.sum_cons]; omega
  | trans _ _ h1 h2 => exact h1.trans h2
theorem fold_ge {p : List Pc} (h : ∀ q ∈ p, GoodP q) : ∀ (x : List Nat) (st : List Int × Int), (∀ k ∈ x, k < p.length) → st.2 + sizes p x ≤ (x.foldl (stepL p) st).2
  | [], st, _ => by simp [sizes]
  | k :: r, st, hk => by
    have gk := good_pc h (hk k List.mem_cons_self)
    obtain ⟨_, b0, _⟩ := by_div gk.c
    have ih := fold_ge h r (stepL p st k) fun j hj => hk j (List.mem_cons_of_mem _ hj)
    have hs : sizes p (k :: r) = (pcN p k).1 + sizes p r := by simp [sizes]
    have h1 : st.2 + (pcN p k).1 ≤ (stepL p st k).2 := by
      have hu := le_up (e := st.2) b0
      have ha := gk.a
      unfold stepL
      split
      · show st.2 + (pcN p k).1 ≤ up st.2 (pcN p k).2 + (pcN p k).1
        omega
      · omega
    rw [List.foldl_cons, hs]
    omega
theorem full_all {n : Nat} {q : List Nat} (h : Pre n q) (hl : q.length = n) {k : Nat} (hk : k < n) : k ∈ q := by
  refine Classical.byContradiction fun hm => ?_
  have : k ∈ lefts n q := mem_lefts.mpr ⟨hk, hm⟩
  rw [lefts_full h hl] at this
  cases this
/-- all whole orders that go on from a beginning -/
def Low (p : List Pc) (b : Int) (o : List Nat) : Prop := ∀ x, Pre p.length (o ++ x) → (o ++ x).length = p.length → b ≤ (laidP p (o ++ x)).2
theorem cut_low {p : List Pc} {b : Int} {o : List Nat} (h : ∀ q ∈ p, GoodP q) (hc : cutP p b o = true) : Low p b o := by
  intro x hx hl
  have hn := hx.nd
  rw [List.nodup_append] at hn
  have hp : x.Perm (lefts p.length o) := by
    refine (List.perm_ext_iff_of_nodup hn.2.1 (List.nodup_range.filter _)).mpr fun k => ⟨fun hk => ?_, fun hk => ?_⟩
    · exact mem_lefts.mpr ⟨hx.lt k (List.mem_append_right _ hk), fun ho => hn.2.2 k ho k hk rfl⟩
    · obtain ⟨h1, h2⟩ := mem_lefts.mp hk
      exact (List.mem_append.mp (full_all hx hl h1)).resolve_left h2
  have hs : sizes p x = sizes p (lefts p.length o) := perm_sum hp
  have hc : b ≤ (laidP p o).2 + sizes p (lefts p.length o) := by simpa [cutP] using hc
  have hf := fold_ge h x (laidP p o) fun k hk => hx.lt k (List.mem_append_right _ hk)
  have e : laidP p (o ++ x) = x.foldl (stepL p) (laidP p o) := by unfold laidP; rw [List.foldl_append]
  rw [e]
  omega
theorem low_step {p : List Pc} {b : Int} {o : List Nat} (hl : o.length < p.length) (h : ∀ k ∈ lefts p.length o, Low p b (o ++ [k])) : Low p b o := by
  intro x hx hlen
  cases x with
  | nil => simp at hlen; omega
  | cons k r =>
    have hn := hx.nd
    rw [List.nodup_append] at hn
    have hk : k ∈ lefts p.length o := mem_lefts.mpr ⟨hx.lt k (List.mem_append_right _ List.mem_cons_self), fun ho => hn.2.2 k ho k List.mem_cons_self rfl⟩
    have e : o ++ k :: r = o ++ [k] ++ r := by simp
    rw [e] at hx hlen ⊢
    exact h k hk r hx hlen
end Lw

namespace Lw
open PySem Pv
/-! ## trees, looked at -/
inductive TreeOk : D → Prop
  | mk (l : List D) (hl : l.length ≤ 1000) (h : ∀ x ∈ l, TreeOk x) : TreeOk (.tup l)
theorem iscut_gc {n : Nat} {p : List Pc} {o : List Nat} {b : Int} {m : M} (h : ∀ q ∈ p, GoodP q) (h8 : p.length ≤ 8) (ho : Pre p.length o) : gcD m (rn (n + 3) 5 [pcs p, .int b, ords o] m) = .ok (.bl (cutP p b o)) m := by
  rw [iscut_run h h8 ho]; exact y_gcP rfl
/-- what the look tells -/
structure Tf (p : List Pc) (b : Int) (o : List Nat) (r : D) : Prop where
  sh : r = .non ∨ ∃ o', r = ords o'
  lo : r = .non → Low p b o
theorem Tf.pure {p : List Pc} {b : Int} {o : List Nat} {r : D} (h : Tf p b o r) : pure_ r = true := by
  rcases h.sh with rfl | ⟨o', rfl⟩
  · rfl
  · exact pure_ords
theorem ords_non {o : List Nat} : (ords o = D.non) = False := by simp [ords]
theorem zip_lst {l : List Nat} {ts : List D} (h : l.length = ts.length) : zipD (.lst (l.map fun (k : Nat) => D.int (k : Int))) (.tup ts) = some (List.zipWith (fun (k : Nat) t => D.tup [.int (k : Int), t]) l ts) := by
  show (if _ = _ then some (List.zipWith _ _ _) else none) = _
  rw [if_pos (by rw [List.length_map]; exact h), List.zipWith_map_left]
theorem fault_tree {p : List Pc} {b : Int} {m : M} (hp : ∀ q ∈ p, GoodP q) (h8 : p.length ≤ 8) : ∀ (f n : Nat) (o : List Nat) (t : D), TreeOk t → Pre p.length o → o.length + f = p.length → ∃ r, rn (n + 4 + f) 12 [pcs p, .int b, t, ords o] m = .ok r m ∧ Tf p b o r := by
  intro f
  induction f with
  | zero =>
    intro n o t ht ho hf
    obtain ⟨l, hl, h⟩ := ht
    have e1 := iscut_gc (n := n) (b := b) (m := m) hp h8 ho
    have e2 := left_gc (n := n + 2) (o := o) (m := m) h8
    rw [show n + 4 + 0 = (n + 3) + 1 from rfl, run_tree_fault, r_tree_fault]
    cases l with
    | nil =>
      cases hc : cutP p b o with
      | true =>
        rw [hc] at e1
        refine ⟨.non, ?_, .inl rfl, fun _ => cut_low hp hc⟩
        simp! only [b_tree_fault, e1, show (((([] : List D).length : Nat) : Int) = 0) from rfl]
      | false =>
        rw [hc] at e1
        refine ⟨ords o, ?_, .inr ⟨o, rfl⟩, fun e => by rw [ords_non] at e; exact e.elim⟩
        simp! only [b_tree_fault, e1, show (((([] : List D).length : Nat) : Int) = 0) from rfl]
    | cons x l =>
      have h0 : ((((x :: l).length : Nat) : Int) = 0) = False := by simp; omega
      have h1 : ((((x :: l).length : Nat) : Int) = (((lefts p.length o).length : Nat) : Int)) = False := by
        rw [lefts_full ho (by omega)]; simp; omega
      refine ⟨ords o, ?_, .inr ⟨o, rfl⟩, fun e => by rw [ords_non] at e; exact e.elim⟩
      simp! only [b_tree_fault, h0, e2, List.length_map, h1]
  | succ f ih =>
    intro n o t ht ho hf
    obtain ⟨l, hl, h⟩ := ht
    have e1 := iscut_gc (n := n + f + 1) (b := b) (m := m) hp h8 ho
    have e2 := left_gc (n := n + 3 + f) (o := o) (m := m) h8
    rw [show n + f + 1 + 3 = n + 4 + f by omega] at e1
    rw [show n + 3 + f + 1 = n + 4 + f by omega] at e2
    rw [show n + 4 + (f + 1) = (n + 4 + f) + 1 by omega, run_tree_fault, r_tree_fault]
    cases l with
    | nil =>
      cases hc : cutP p b o with
      | true =>
        rw [hc] at e1
        refine ⟨.non, ?_, .inl rfl, fun _ => cut_low hp hc⟩
        simp! only [b_tree_fault, e1, show (((([] : List D).length : Nat) : Int) = 0) from rfl]
      | false =>
        rw [hc] at e1
        refine ⟨ords o, ?_, .inr ⟨o, rfl⟩, fun e => by rw [ords_non] at e; exact e.elim⟩
        simp! only [b_tree_fault, e1, show (((([] : List D).length : Nat) : Int) = 0) from rfl]
    | cons x l =>
      have h0 : ((((x :: l).length : Nat) : Int) = 0) = False := by simp; omega
      by_cases hlen : (lefts p.length o).length = (x :: l).length
      · have h1 : ((((x :: l).length : Nat) : Int) = (((lefts p.length o).length : Nat) : Int)) = True := by rw [hlen]; simp
        have key : ∀ (ks : List Nat) (ts : List D), (∀ k ∈ ks, k ∈ lefts p.length o) → (∀ t ∈ ts, TreeOk t) → ks.length = ts.length → ∀ z5 z6 z7 : Option D, ∃ fl env', forL (.tp (.cons (.nm 5) (.cons (.nm 6) .nil))) (evB (rn (n + 4 + f)) gl0 xf0 l_tree_fault_0 none) (List.zipWith (fun (k : Nat) t => D.tup [.int (k : Int), t]) ks ts) [some (pcs p), some (.int b), some (.tup (x :: l)), some (ords o), some (.lst ((lefts p.length o).map fun (k : Nat) => D.int (k : Int))), z5, z6, z7] m = some (fl, env', m) ∧ ((∃ o', fl = .rt (ords o')) ∨ (fl = .nx ∧ ∀ k ∈ ks, Low p b (o ++ [k]))) := by
          intro ks
          induction ks with
          | nil => exact fun ts _ _ _ z5 z6 z7 => ⟨.nx, _, by rw [List.zipWith_nil_left]; rfl, .inr ⟨rfl, fun _ h => (nomatch h)⟩⟩
          | cons k ks ihk =>
            intro ts hk ht hll z5 z6 z7
            cases ts with
            | nil => cases hll
            | cons t ts =>
              obtain ⟨r, e3, tf⟩ := ih n (o ++ [k]) t (ht t List.mem_cons_self) (ho.snoc (hk k List.mem_cons_self)) (by simp; omega)
              have e4 : gcD m (rn (n + 4 + f) 12 [pcs p, .int b, t, ords (o ++ [k])] m) = .ok r m := by
                rw [e3]; exact y_gcP tf.pure
              rw [List.zipWith_cons_cons, forL]
              rcases tf.sh with rfl | ⟨o', rfl⟩
              · obtain ⟨fl, env', e5, h5⟩ := ihk ts (fun j hj => hk j (List.mem_cons_of_mem _ hj)) (fun j hj => ht j (List.mem_cons_of_mem _ hj)) (by simpa using hll) (some (.int (k : Int))) (some t) (some .non)
                have ev : evB (rn (n + 4 + f)) gl0 xf0 l_tree_fault_0 none [some (pcs p), some (.int b), some (.tup (x :: l)), some (ords o), some (.lst ((lefts p.length o).map fun (k : Nat) => D.int (k : Int))), some (.int (k : Int)), some t, z7] m = some (.nx, [some (pcs p), some (.int b), some (.tup (x :: l)), some (ords o), some (.lst ((lefts p.length o).map fun (k : Nat) => D.int (k : Int))), some (.int (k : Int)), some t, some .non], m) := by
                  unfold ords at e4 ⊢
                  simp! only [l_tree_fault_0, ords_snoc (show o.length ≤ 100 by have := ho.len; omega), e4]
                refine ⟨fl, env', ?_, ?_⟩
                · show (evB (rn (n + 4 + f)) gl0 xf0 l_tree_fault_0 none [some (pcs p), some (.int b), some (.tup (x :: l)), some (ords o), some (.lst ((lefts p.length o).map fun (k : Nat) => D.int (k : Int))), some (.int (k : Int)), some t, z7] m).bind _ = _
                  rw [ev]
                  exact e5
                · rcases h5 with h5 | ⟨h5, h6⟩
                  · exact .inl h5
                  · refine .inr ⟨h5, fun j hj => ?_⟩
                    rcases List.mem_cons.mp hj with rfl | hj
                    · exact tf.lo rfl
                    · exact h6 j hj
              · have hn : (D.tup (o'.map fun (k : Nat) => .int (k : Int)) = D.non) = False := by simp
                have ev : evB (rn (n + 4 + f)) gl0 xf0 l_tree_fault_0 none [some (pcs p), some (.int b), some (.tup (x :: l)), some (ords o), some (.lst ((lefts p.length o).map fun (k : Nat) => D.int (k : Int))), some (.int (k : Int)), some t, z7] m = some (.rt (ords o'), [some (pcs p), some (.int b), some (.tup (x :: l)), some (ords o), some (.lst ((lefts p.length o).map fun (k : Nat) => D.int (k : Int))), some (.int (k : Int)), some t, some (ords o')], m) := by
                  unfold ords at e4 ⊢
                  simp! only [l_tree_fault_0, ords_snoc (show o.length ≤ 100 by have := ho.len; omega), e4, hn]
                refine ⟨.rt (ords o'), [some (pcs p), some (.int b), some (.tup (x :: l)), some (ords o), some (.lst ((lefts p.length o).map fun (k : Nat) => D.int (k : Int))), some (.int (k : Int)), some t, some (ords o')], ?_, .inl ⟨o', rfl⟩⟩
                show (evB (rn (n + 4 + f)) gl0 xf0 l_tree_fault_0 none [some (pcs p), some (.int b), some (.tup (x :: l)), some (ords o), some (.lst ((lefts p.length o).map fun (k : Nat) => D.int (k : Int))), some (.int (k : Int)), some t, z7] m).bind _ = _
                rw [ev]
                rfl
        obtain ⟨fl, env', e5, h5⟩ := key (lefts p.length o) (x :: l) (fun _ h => h) h hlen none none none
        have ez := zip_lst hlen
        rcases h5 with ⟨o', rfl⟩ | ⟨rfl, h6⟩
        · refine ⟨ords o', ?_, .inr ⟨o', rfl⟩, fun e => by rw [ords_non] at e; exact e.elim⟩
          simp! only [b_tree_fault, h0, e2, List.length_map, h1, ez, e5]
        · refine ⟨.non, ?_, .inl rfl, fun _ => low_step (by omega) h6⟩
          simp! only [b_tree_fault, h0, e2, List.length_map, h1, ez, e5]
      · have h1 : ((((x :: l).length : Nat) : Int) = (((lefts p.length o).length : Nat) : Int)) = False := by
          simp only [eq_iff_iff, iff_false]; omega
        refine ⟨ords o, ?_, .inr ⟨o, rfl⟩, fun e => by rw [ords_non] at e; exact e.elim⟩
        simp! only [b_tree_fault, h0, e2, List.length_map, h1]
/-- the paper that fewest tells has a right tree -/
theorem fault_told {p : List Pc} {m : M} (hp : ∀ q ∈ p, GoodP q) (h8 : p.length ≤ 8) : ∀ (f n : Nat) (o : List Nat), Pre p.length o → o.length + f = p.length → rn (n + 4 + f) 12 [pcs p, .int (bitsP p), treeD p (bitsP p) f o, ords o] m = .ok .non m := by
  intro f
  induction f with
  | zero =>
    intro n o ho hf
    have e1 := iscut_gc (n := n) (b := bitsP p) (m := m) hp h8 ho
    rw [cut_full ho (by omega)] at e1
    rw [show n + 4 + 0 = (n + 3) + 1 from rfl, run_tree_fault, r_tree_fault, treeD]
    simp! only [b_tree_fault, e1, show (((([] : List D).length : Nat) : Int) = 0) from rfl]
  | succ f ih =>
    intro n o ho hf
    have e1 := iscut_gc (n := n + f + 1) (b := bitsP p) (m := m) hp h8 ho
    have e2 := left_gc (n := n + 3 + f) (o := o) (m := m) h8
    rw [show n + f + 1 + 3 = n + 4 + f by omega] at e1
    rw [show n + 3 + f + 1 = n + 4 + f by omega] at e2
    rw [show n + 4 + (f + 1) = (n + 4 + f) + 1 by omega, run_tree_fault, r_tree_fault, treeD]
    cases hc : cutP p (bitsP p) o with
    | true =>
      rw [hc] at e1
      simp! only [b_tree_fault, e1, show (((([] : List D).length : Nat) : Int) = 0) from rfl]
    | false =>
      have hpos := lefts_some ho (by omega)
      have hn0 : (((lefts p.length o).length : Int) = 0) = False := by simp only [eq_iff_iff, iff_false]; omega
      have hlp := ho.len
      have ez := zip_lst (l := lefts p.length o) (ts := (lefts p.length o).map fun k => treeD p (bitsP p) f (o ++ [k])) (by simp)
      rw [List.zipWith_map_right, List.zipWith_self] at ez
      obtain ⟨envA, mA, fA, z5, z6, z7, rfl, rfl⟩ := for_ok (t := .tp (.cons (.nm 5) (.cons (.nm 6) .nil))) (tb := evB (rn (n + 4 + f)) gl0 xf0 l_tree_fault_0 none)
        (fun i env m1 => ∃ z5 z6 z7, env = [some (pcs p), some (.int (bitsP p)), some (.tup ((lefts p.length o).map fun k => treeD p (bitsP p) f (o ++ [k]))), some (ords o), some (.lst ((lefts p.length o).map fun (k : Nat) => D.int (k : Int))), z5, z6, z7] ∧ m1 = m)
        ((lefts p.length o).map fun (k : Nat) => .tup [.int (k : Int), treeD p (bitsP p) f (o ++ [k])]) [some (pcs p), some (.int (bitsP p)), some (.tup ((lefts p.length o).map fun k => treeD p (bitsP p) f (o ++ [k]))), some (ords o), some (.lst ((lefts p.length o).map fun (k : Nat) => D.int (k : Int))), none, none, none] m ⟨none, none, none, rfl, rfl⟩ (by
          rintro i hi env m1 ⟨z5, z6, z7, rfl, rfl⟩
          have hi' : i < (lefts p.length o).length := by simpa using hi
          have hk := List.getElem_mem hi'
          rw [List.getElem_map]
          generalize (lefts p.length o)[i] = k at hk ⊢
          have e4 := ih n (o ++ [k]) (ho.snoc hk) (by simp; omega)
          have e5 : gcD m1 (rn (n + 4 + f) 12 [pcs p, .int (bitsP p), treeD p (bitsP p) f (o ++ [k]), ords (o ++ [k])] m1) = .ok .non m1 := by
            rw [e4]; exact y_gcP rfl
          refine ⟨_, [some (pcs p), some (.int (bitsP p)), some (.tup ((lefts p.length o).map fun k => treeD p (bitsP p) f (o ++ [k]))), some (ords o), some (.lst ((lefts p.length o).map fun (k : Nat) => D.int (k : Int))), some (.int (k : Int)), some (treeD p (bitsP p) f (o ++ [k])), some .non], m1, rfl, ?_, _, _, _, rfl, rfl⟩
          unfold ords at e5 ⊢
          simp! only [l_tree_fault_0, ords_snoc (show o.length ≤ 100 by omega), e5])
      simp! only [b_tree_fault, hn0, e2, List.length_map, ez, fA]
end Lw

namespace Lw
open PySem Pv
/-! ## orderfault -/
theorem whole_gc {n : Nat} {a : Int} {m : M} : gcD m (rn (n + 1) 8 [.int a] m) = .ok (.bl true) m := by
  have : rn (n + 1) 8 [.int a] m = .ok (.bl true) m := by
    rw [run_is_whole, r_is_whole]
    simp! only [b_is_whole]
  rw [this]
  exact y_gcP rfl
theorem g0 : gl0[0]? = some (.int 8) := rfl
theorem g1 : gl0[1]? = some (.int 4096) := rfl
theorem g2 : gl0[2]? = some (.tup [.int 1, .int 8, .int 16, .int 32, .int 64]) := rfl
theorem in_bys {m : M} {b : Int} (h : b = 1 ∨ b = 8 ∨ b = 16 ∨ b = 32 ∨ b = 64) : cmpM m .isin (.int b) (.tup [.int 1, .int 8, .int 16, .int 32, .int 64]) = some true := by
  rcases h with rfl | rfl | rfl | rfl | rfl <;> rfl
theorem ispart_gc {n : Nat} {q : Pc} {m : M} (g : GoodP q) : gcD m (rn (n + 2) 9 [pcD q] m) = .ok (.bl true) m := by
  have : rn (n + 2) 9 [pcD q] m = .ok (.bl true) m := by
    have h1 : (0 : Int) ≤ q.1 := g.a
    have h2 : q.1 ≤ 4096 := g.b
    rw [run_is_part, r_is_part]
    simp! only [b_is_part, pcD, v_at0, v_at1, whole_gc (n := n), show ((([D.int q.1, D.int q.2].length : Nat) : Int) = 2) from rfl, g1, g2, h1, h2, in_bys g.c]
  rw [this]
  exact y_gcP rfl
theorem all_true : ∀ {α : Type} (l : List α), bools (l.map fun _ => D.bl true) = some (l.map fun _ => true)
  | _, [] => rfl
  | _, x :: r => by rw [List.map_cons, bools, all_true r]; rfl
theorem all_ev {α : Type} {m : M} {l : List α} : biD m .all [.lst (l.map fun _ => D.bl true)] = some (.bl true) := by
  show (bools (l.map fun _ => D.bl true)).map (fun bs => D.bl (bs.all id)) = _
  rw [all_true]
  simp
theorem areparts_gc {n : Nat} {p : List Pc} {m : M} (h : ∀ q ∈ p, GoodP q) (h8 : p.length ≤ 8) : gcD m (rn (n + 3) 10 [pcs p] m) = .ok (.bl true) m := by
  have : rn (n + 3) 10 [pcs p] m = .ok (.bl true) m := by
    have hc : compL (.nm 1) [some (pcs p), none] (evE (rn (n + 2)) gl0 none (.callG 9 (.cons (.var 1) .nil))) (p.map pcD) m = some (p.map fun _ => D.bl true, m) := by
      have := comp_map (t := .nm 1) (env := [some (pcs p), none]) (te := evE (rn (n + 2)) gl0 none (.callG 9 (.cons (.var 1) .nil))) (m := m) (fun _ => D.bl true) (p.map pcD) (by
        intro x hx
        obtain ⟨q, hq, rfl⟩ := List.mem_map.mp hx
        refine ⟨_, y_nm, ?_⟩
        simp! only [ispart_gc (n := n) (h q hq)])
      rw [this, List.map_map]
      rfl
    have hL : (p.map pcD).length ≤ lim := by rw [List.length_map]; exact lim10 (by omega)
    have h9 : ¬ (8 : Int) < (p.length : Int) := by omega
    have hsq : seqI (.tup (p.map pcD)) = some (p.map pcD) := rfl
    rw [run_are_parts, r_are_parts]
    unfold pcs at hc ⊢
    simp! only [b_are_parts, List.length_map, g0, h9, hsq, y_comp hL, hc, all_ev]
  rw [this]
  exact y_gcP rfl
theorem sorted_full {n : Nat} {o : List Nat} {m : M} (h : Pre n o) (hl : o.length = n) : biD m .sorted [.tup (o.map fun (k : Nat) => .int (k : Int))] = some (.lst (((List.range n).map fun (k : Nat) => (k : Int)).map .int)) := by
  show ((intsD (o.map fun (k : Nat) => D.int (k : Int))).map fun ns => D.lst ((sortD ns).map .int)) = _
  rw [nat_ints, intsD_map]
  show some (D.lst ((sortD (o.map fun (k : Nat) => (k : Int))).map .int)) = _
  rw [sort_of h hl]
theorem listRg_ev {N : Nat} (h : N ≤ 8) : listRgD (.int (N : Int)) = some (.lst (((List.range N).map fun (k : Nat) => (k : Int)).map .int)) := by
  match N, h with
  | 0, _ => rfl
  | 1, _ => rfl
  | 2, _ => rfl
  | 3, _ => rfl
  | 4, _ => rfl
  | 5, _ => rfl
  | 6, _ => rfl
  | 7, _ => rfl
  | 8, _ => rfl
theorem isorder_gc {n N : Nat} {o : List Nat} {m : M} (h8 : N ≤ 8) (h : Pre N o) (hl : o.length = N) : gcD m (rn (n + 2) 11 [.int N, ords o] m) = .ok (.bl true) m := by
  have : rn (n + 2) 11 [.int N, ords o] m = .ok (.bl true) m := by
    have hc : compL (.nm 2) [some (.int N), some (ords o), none] (evE (rn (n + 1)) gl0 none (.callG 8 (.cons (.var 2) .nil))) (o.map fun (k : Nat) => .int (k : Int)) m = some (o.map fun _ => D.bl true, m) := by
      have := comp_map (t := .nm 2) (env := [some (.int N), some (ords o), none]) (te := evE (rn (n + 1)) gl0 none (.callG 8 (.cons (.var 2) .nil))) (m := m) (fun _ => D.bl true) (o.map fun (k : Nat) => .int (k : Int)) (by
        intro x hx
        obtain ⟨q, hq, rfl⟩ := List.mem_map.mp hx
        refine ⟨_, y_nm, ?_⟩
        simp! only [whole_gc (n := n)])
      rw [this, List.map_map]
      rfl
    have hL : (o.map fun (k : Nat) => D.int (k : Int)).length ≤ lim := by rw [List.length_map]; exact lim10 (by omega)
    have he : ((o.length : Int) = (N : Int)) = True := by simp; omega
    have hsq : seqI (.tup (o.map fun (k : Nat) => D.int (k : Int))) = some (o.map fun (k : Nat) => D.int (k : Int)) := rfl
    rw [run_is_order, r_is_order]
    unfold ords at hc ⊢
    simp! only [b_is_order, List.length_map, he, hsq, y_comp hL, hc, all_ev, sorted_full h hl, listRg_ev h8, eq_lst]
  rw [this]
  exact y_gcP rfl
def papD (b : Int) (o : List Nat) (t : D) : D := .tup [.int b, ords o, t]
/-- a tree that is told of tells how orderfault ends -/
theorem orderfault_of {n : Nat} {p : List Pc} {o : List Nat} {t r : D} {m : M} (hp : ∀ q ∈ p, GoodP q) (h8 : p.length ≤ 8) (ho : Pre p.length o) (hl : o.length = p.length) (ht : pure_ r = true)
    (e : rn (n + 5 + p.length) 12 [pcs p, .int (laidP p o).2, t, ords []] m = .ok r m) :
    gcD m (rn (n + 6 + p.length) 13 [pcs p, papD (laidP p o).2 o t] m) = .ok (if r = .non then .non else .tup [.str "tree", r]) m := by
  have e1 := areparts_gc (n := n + 2 + p.length) (m := m) hp h8
  have e2 := isorder_gc (n := n + 3 + p.length) (N := p.length) (m := m) h8 ho hl
  have e3 := bits_gc (n := n + 2 + p.length) (m := m) hp h8 ho
  have e4 : gcD m (rn (n + 5 + p.length) 12 [pcs p, .int (laidP p o).2, t, .tup []] m) = .ok r m := by
    show gcD m (rn (n + 5 + p.length) 12 [pcs p, .int (laidP p o).2, t, ords []] m) = _
    rw [e]; exact y_gcP ht
  rw [show n + 2 + p.length + 3 = n + 5 + p.length by omega] at e1
  rw [show n + 3 + p.length + 2 = n + 5 + p.length by omega] at e2
  rw [show n + 2 + p.length + 3 = n + 5 + p.length by omega] at e3
  have hlen : ∀ mm : M, biD mm .len [pcs p] = some (.int (p.length : Int)) := fun mm => by
    show (lenD mm (pcs p)).map D.int = _
    unfold pcs
    simp [lenD, deref]
  have hw := whole_gc (n := n + 4 + p.length) (a := (laidP p o).2) (m := m)
  rw [show n + 4 + p.length + 1 = n + 5 + p.length by omega] at hw
  have h3 : ((([D.int (laidP p o).2, ords o, t].length : Nat) : Int) = 3) := rfl
  have key : rn (n + 6 + p.length) 13 [pcs p, papD (laidP p o).2 o t] m = .ok (if r = .non then .non else .tup [.str "tree", r]) m := by
    rw [show n + 6 + p.length = (n + 5 + p.length) + 1 by omega, run_orderfault, r_orderfault]
    by_cases hr : r = .non
    · subst hr
      simp! only [b_orderfault, papD, e1, v_at0, hw, h3, hlen, e2, e3, e4]
    · have hr' : (r = D.non) = False := by simp [hr]
      simp! only [b_orderfault, papD, e1, v_at0, hw, h3, hlen, e2, e3, e4, hr']
  rw [key]
  refine y_gcP ?_
  by_cases hr : r = .non
  · rw [if_pos hr]; rfl
  · rw [if_neg hr]; simp [pure_, pures, ht]
end Lw

namespace Lw
open PySem Pv
theorem tree_ok {p : List Pc} {b : Int} (h8 : p.length ≤ 8) : ∀ {f : Nat} {o : List Nat}, TreeOk (treeD p b f o)
  | 0, _ => .mk _ (by simp) fun _ h => (nomatch h)
  | f + 1, o => by
    rw [treeD]
    split
    · exact .mk _ (by simp) fun _ h => (nomatch h)
    · refine .mk _ (by rw [List.length_map]; have := lefts_len (n := p.length) (o := o); omega) fun x hx => ?_
      obtain ⟨k, _, rfl⟩ := List.mem_map.mp hx
      exact tree_ok h8
theorem nil_ok : TreeOk (.tup []) := .mk _ (by simp) fun _ h => (nomatch h)
theorem TreeOk.pure {t : D} (h : TreeOk t) : pure_ t = true := by
  induction h with
  | mk l hl h ih =>
    rw [pure_]
    have := pures_map (f := id) l ih
    rwa [List.map_id] at this
/-- a paper of the law's -/
structure Pap (p : List Pc) (x : D) : Prop where
  ex : ∃ o t, x = papD (laidP p o).2 o t ∧ Pre p.length o ∧ o.length = p.length ∧ TreeOk t
/-- what orderfault tells of it -/
theorem pap_told {n : Nat} {p : List Pc} {o : List Nat} {t : D} {m : M} (hp : ∀ q ∈ p, GoodP q) (h8 : p.length ≤ 8) (ho : Pre p.length o) (hl : o.length = p.length) (ht : TreeOk t) :
    ∃ r, gcD m (rn (n + 6 + p.length) 13 [pcs p, papD (laidP p o).2 o t] m) = .ok r m ∧ (r = .non → Low p (laidP p o).2 []) := by
  obtain ⟨r, e, tf⟩ := fault_tree (b := (laidP p o).2) (m := m) hp h8 p.length (n + 1) [] t ht .nil (by simp)
  rw [show n + 1 + 4 + p.length = n + 5 + p.length by omega] at e
  refine ⟨_, orderfault_of hp h8 ho hl tf.pure e, fun h => ?_⟩
  by_cases hr : r = .non
  · exact tf.lo hr
  · rw [if_neg hr] at h; cases h
theorem told_right {n : Nat} {p : List Pc} {m : M} (hp : ∀ q ∈ p, GoodP q) (h5 : p.length ≤ 5) : gcD m (rn (n + 6 + p.length) 13 [pcs p, paperD p] m) = .ok .non m := by
  obtain ⟨ho, hl⟩ := best_pre (p := p)
  have e := fault_told (m := m) hp (by omega) p.length (n + 1) [] .nil (by simp)
  rw [show n + 1 + 4 + p.length = n + 5 + p.length by omega] at e
  have := orderfault_of (n := n) (t := treeD p (bitsP p) p.length []) (m := m) hp (by omega) ho hl rfl e
  rw [if_pos rfl] at this
  exact this
theorem paper_pap {p : List Pc} (h8 : p.length ≤ 8) : Pap p (paperD p) := by
  obtain ⟨ho, hl⟩ := best_pre (p := p)
  exact ⟨bestO p, treeD p (bitsP p) p.length [], rfl, ho, hl, tree_ok h8⟩
theorem tree_tup {p : List Pc} {b : Int} {f : Nat} {o : List Nat} : ∃ l, treeD p b f o = .tup l := by
  cases f with
  | zero => exact ⟨_, rfl⟩
  | succ f =>
    rw [treeD]
    split <;> exact ⟨_, rfl⟩
theorem rep_nil {m : M} {N : Nat} (h : N ≤ 8) : bopD m .mul (.tup [.tup []]) (.int (N : Int)) = some (.tup (List.replicate N (.tup []))) := by
  match N, h with
  | 0, _ => rfl
  | 1, _ => rfl
  | 2, _ => rfl
  | 3, _ => rfl
  | 4, _ => rfl
  | 5, _ => rfl
  | 6, _ => rfl
  | 7, _ => rfl
  | 8, _ => rfl
theorem cut1 {l : List D} : cutD l (some 1) none = l.drop 1 := by
  simp only [cutD, sIx]
  have h1 : ¬ ((1 : Int) < 0) := by decide
  cases l with
  | nil => simp [h1]
  | cons x l => simp [h1]
theorem four_at {w : Int} {a b c d : D} (h0 : 0 ≤ w) (h1 : w < 4) : ∃ x, atD [a, b, c, d] w = some x ∧ (x = a ∨ x = b ∨ x = c ∨ x = d) := by
  obtain ⟨j, rfl⟩ : ∃ j : Nat, w = j := ⟨w.toNat, by omega⟩
  match j, (show j < 4 by omega) with
  | 0, _ => exact ⟨a, rfl, .inl rfl⟩
  | 1, _ => exact ⟨b, rfl, .inr (.inl rfl)⟩
  | 2, _ => exact ⟨c, rfl, .inr (.inr (.inl rfl))⟩
  | 3, _ => exact ⟨d, rfl, .inr (.inr (.inr rfl))⟩
theorem papers_run {n : Nat} {p : List Pc} (hp : ∀ q ∈ p, GoodP q) (h5 : p.length ≤ 5) (s : Dk) (h : s.Ok) (hk : s.k < 2 ^ 35) (g : M) :
    ∃ (x y : D) (s' : Dk), rn (n + 15) 25 [.ref 1, pcs p] (mem s g) = .ok (.lst [paperD p, x, y]) (mem s' g) ∧ Pap p x ∧ Pap p y ∧ s'.k ≤ s.k + 200000 ∧ s'.Ok := by
  obtain ⟨o, s1, e1, ho, hl, k1, o1⟩ := order_run (n := n + 12) s h (by omega) p.length (by omega) g
  have e2 := lawlaid_gc (n := n + 12) (m := mem s1 g) hp (by omega) ho
  have h10 : 10 ^ p.length ≤ 10 ^ 5 := Nat.pow_le_pow_right (by decide) h5
  obtain ⟨s2, e3, k2, o2⟩ := lawtree_run (b := (laidP p o).2) hp h5 p.length (n + 10 - p.length) [] .nil (by simp) s1 g o1 (by omega)
  rw [show n + 10 - p.length + 4 + p.length = n + 14 by omega] at e3
  have e4 : gcD (mem s2 g) (rn (n + 14) 7 [pcs p] (mem s2 g)) = .ok (paperD p) (mem s2 g) := by
    rw [fewest_run (n := n + 4) hp h5]; exact y_gcP paper_pure
  obtain ⟨l, el⟩ := tree_tup (p := p) (b := (laidP p o).2) (f := p.length) (o := [])
  have tok : TreeOk (.tup l) := by rw [← el]; exact tree_ok (by omega)
  have hll : l.length ≤ 1000 ∧ ∀ x ∈ l, TreeOk x := by
    cases tok with
    | mk _ a b => exact ⟨a, b⟩
  obtain ⟨w, s3, e5, w0, w1, k3, o3⟩ := next_run (n := n + 13) s2 o2 (by omega) 4 (by decide) (by decide) g
  obtain ⟨x, ex, hx⟩ := four_at (a := .tup []) (b := .tup (l.drop 1)) (c := .tup (l ++ [.tup []])) (d := .tup (List.replicate p.length (.tup []))) w0 w1
  have xok : TreeOk x := by
    rcases hx with rfl | rfl | rfl | rfl
    · exact nil_ok
    · exact .mk _ (by simp; omega) fun y hy => hll.2 y (List.mem_of_mem_drop hy)
    · have hle : l.length ≤ 8 := by
        have : (D.tup l) = treeD p (laidP p o).2 p.length [] := el.symm
        cases hpl : p.length with
        | zero =>
          rw [hpl] at this
          cases this
          simp
        | succ f =>
          rw [hpl, treeD] at this
          have hlf := lefts_len (n := p.length) (o := [])
          split at this <;> cases this
          · simp
          · rw [List.length_map]; omega
      refine .mk _ (by simp; omega) fun y hy => ?_
      rcases List.mem_append.mp hy with q | q
      · exact hll.2 y q
      · rw [List.mem_singleton.mp q]; exact nil_ok
    · refine .mk _ (by simp; omega) fun y hy => ?_
      rw [List.eq_of_mem_replicate hy]; exact nil_ok
  have hlen : ∀ mm : M, biD mm .len [pcs p] = some (.int (p.length : Int)) := fun mm => by
    show (lenD mm (pcs p)).map D.int = _
    unfold pcs
    simp [lenD, deref]
  refine ⟨papD (laidP p o).2 o (.tup l), papD (laidP p o).2 o x, s3, ?_, ⟨o, _, rfl, ho, hl, tok⟩, ⟨o, _, rfl, ho, hl, xok⟩, by omega, o3⟩
  have e3 : rn (n + 14) 23 [.ref 1, pcs p, .int (laidP p o).2, .tup [], .int 1] (mem s1 g) = .ok (.tup l) (mem s2 g) := by rw [← el]; exact e3
  have hcat : l.length + [D.tup []].length ≤ lim := lim10 (by simp; omega)
  rw [run__law_papers, r__law_papers]
  simp! only [b__law_papers, hlen, e1, e2, v_at1, e3, e4, cut1, v_catT hcat, rep_nil (show p.length ≤ 8 by omega), e5, ex, papD]
end Lw

namespace Lw
open PySem Pv
theorem least_ev {p : List Pc} {m : M} {z0 z1 z2 z4 z5 z6 z7 z8 z10 : Option D} (hp : ∀ q ∈ p, GoodP q) (h8 : p.length ≤ 8) : ∀ (l : List D), (∀ x ∈ l, Pap p x) → ∃ LS : List Int, compLI (.nm 9) [z0, z1, z2, some (pcs p), z4, z5, z6, z7, z8, none, z10] (evE (rn 300) gl0 none (.isN (.callG 13 (.cons (.var 3) (.cons (.var 9) .nil))))) (evE (rn 300) gl0 none (.ix (.var 9) (.con (.int 0)))) l m = some (LS.map .int, m) ∧ ∀ b ∈ LS, Low p b []
  | [], _ => ⟨[], rfl, fun _ h => (nomatch h)⟩
  | x :: r, h => by
    obtain ⟨LS, e, hl⟩ := least_ev (m := m) (z0 := z0) (z1 := z1) (z2 := z2) (z4 := z4) (z5 := z5) (z6 := z6) (z7 := z7) (z8 := z8) (z10 := z10) hp h8 r fun y hy => h y (List.mem_cons_of_mem _ hy)
    obtain ⟨o, t, rfl, ho, hlo, ht⟩ := h x List.mem_cons_self
    obtain ⟨rr, e1, lo⟩ := pap_told (n := 294 - p.length) (m := m) hp h8 ho hlo ht
    rw [show 294 - p.length + 6 + p.length = 300 by omega] at e1
    have hx : ixM m (papD (laidP p o).2 o t) (.int 0) = some (.int (laidP p o).2) := rfl
    have ec : evE (rn 300) gl0 none (.isN (.callG 13 (.cons (.var 3) (.cons (.var 9) .nil)))) [z0, z1, z2, some (pcs p), z4, z5, z6, z7, z8, some (papD (laidP p o).2 o t), z10] m = .ok (.bl (decide (rr = .non))) m := by
      simp! only [e1]
    have ev : evE (rn 300) gl0 none (.ix (.var 9) (.con (.int 0))) [z0, z1, z2, some (pcs p), z4, z5, z6, z7, z8, some (papD (laidP p o).2 o t), z10] m = .ok (.int (laidP p o).2) m := by
      simp! only [hx]
    by_cases hr : rr = .non
    · refine ⟨(laidP p o).2 :: LS, ?_, fun b hb => ?_⟩
      · rw [compLI]
        show ((calmR (evE (rn 300) gl0 none (.isN (.callG 13 (.cons (.var 3) (.cons (.var 9) .nil)))) [z0, z1, z2, some (pcs p), z4, z5, z6, z7, z8, some (papD (laidP p o).2 o t), z10] m)).bind _) = _
        rw [ec]
        rw [decide_eq_true hr]
        show ((calmR (evE (rn 300) gl0 none (.ix (.var 9) (.con (.int 0))) [z0, z1, z2, some (pcs p), z4, z5, z6, z7, z8, some (papD (laidP p o).2 o t), z10] m)).bind fun q => (compLI (.nm 9) _ _ _ r q.2).bind fun w => some (q.1 :: w.1, w.2)) = _
        rw [ev]
        show ((compLI (.nm 9) _ _ _ r m).bind fun w => some (D.int (laidP p o).2 :: w.1, w.2)) = _
        rw [e]
        rfl
      · rcases List.mem_cons.mp hb with rfl | hb
        · exact lo hr
        · exact hl b hb
    · refine ⟨LS, ?_, hl⟩
      rw [compLI]
      show ((calmR (evE (rn 300) gl0 none (.isN (.callG 13 (.cons (.var 3) (.cons (.var 9) .nil)))) [z0, z1, z2, some (pcs p), z4, z5, z6, z7, z8, some (papD (laidP p o).2 o t), z10] m)).bind _) = _
      rw [ec]
      rw [decide_eq_false hr]
      exact e
theorem none_more {LS : List Int} {e : Int} {m : M} {z0 z1 z2 z3 z4 z5 z6 z7 z9 : Option D} (h : ∀ b ∈ LS, b ≤ e) : compLI (.nm 10) [z0, z1, z2, z3, z4, z5, z6, z7, some (.int e), z9, none] (evE (rn 300) gl0 none (.cmp .gt (.var 10) (.var 8))) (evE (rn 300) gl0 none (.var 10)) (LS.map .int) m = some ([], m) := by
  have := compI_list (t := .nm 10) (env := [z0, z1, z2, z3, z4, z5, z6, z7, some (.int e), z9, none]) (tc := evE (rn 300) gl0 none (.cmp .gt (.var 10) (.var 8))) (te := evE (rn 300) gl0 none (.var 10)) (m := m) D.int D.int (fun _ => false) LS (by
    intro b hb
    have hb' : ¬ e < b := by have := h b hb; omega
    refine ⟨_, y_nm, ?_, fun q => by cases q⟩
    simp! only [hb'])
  rw [show LS.filter (fun _ => false) = [] by simp] at this
  exact this
theorem main : ∀ ns : List Int, ns.length ≤ 63 → ∃ m', run tab gl0 xf0 (300 + 1) 26 [.frz (ns.map .int)] [] = .ok (.bl true) m' := by
  intro ns hns
  show ∃ m', rn (300 + 1) 26 [.frz (ns.map .int)] [] = .ok (.bl true) m'
  rw [run_law, r_law]
  obtain ⟨s0, e0, ok0, k0⟩ := draws_ok (rn 299) gl0 xf0 ns hns
  have e0 : rn 300 14 [.frz (ns.map .int)] [] = .ok (.ref 1) (mem s0 []) := by rw [show (300 : Nat) = 299 + 1 from rfl, run__law_draws]; exact e0
  obtain ⟨w, s1, e1, w0, w1, k1, o1⟩ := next_run (n := 299) s0 ok0 (by omega) 3 (by decide) (by decide) []
  obtain ⟨most, em, hm⟩ : ∃ most : Nat, atD [.int 5, .int 5, .int 8] w = some (.int (most : Int)) ∧ most ≤ 8 := by
    obtain ⟨j, rfl⟩ : ∃ j : Nat, w = j := ⟨w.toNat, by omega⟩
    match j, (show j < 3 by omega) with
    | 0, _ => exact ⟨5, rfl, by omega⟩
    | 1, _ => exact ⟨5, rfl, by omega⟩
    | 2, _ => exact ⟨8, rfl, by omega⟩
  obtain ⟨p, s2, e2, hpm, hp, k2, o2⟩ := parts_run (n := 297) s1 o1 (by omega) [] most hm
  have e2 : rn 300 17 [.ref 1, .int most] (mem s1 []) = .ok (pcs p) (mem s2 []) := e2
  have h8 : p.length ≤ 8 := by omega
  have hlen : ∀ mm : M, biD mm .len [pcs p] = some (.int (p.length : Int)) := fun mm => by
    show (lenD mm (pcs p)).map D.int = _
    unfold pcs
    simp [lenD, deref]
  -- the papers
  obtain ⟨l, s3, hl3, e3, hpap, k3, o3⟩ : ∃ (l : List D) (s3 : Dk), l.length ≤ 3 ∧
      evS (rn 300) gl0 xf0 (.ife (.cmp .lt (.bi .len (.cons (.var 3) .nil)) (.con (.int 6))) (.cons (.asg (.nm 4) (.call 25 (.cons (.var 1) (.cons (.var 3) .nil)))) (.cons (.ife (.notN (.callG 13 (.cons (.var 3) (.cons (.ix (.var 4) (.con (.int 0))) .nil)))) (.cons (.ret (.con (.bl false))) .nil) .nil) .nil)) .nil) none [some (.frz (ns.map .int)), some (.ref 1), some (.int most), some (pcs p), some (.lst []), none, none, none, none, none, none] (mem s2 []) = some (.nx, [some (.frz (ns.map .int)), some (.ref 1), some (.int most), some (pcs p), some (.lst l), none, none, none, none, none, none], mem s3 []) ∧ (∀ x ∈ l, Pap p x) ∧ s3.k ≤ s2.k + 200000 ∧ s3.Ok := by
    by_cases h6 : (p.length : Int) < 6
    · obtain ⟨x, y, s3, e3, hx, hy, k3, o3⟩ := papers_run (n := 285) hp (by omega) s2 o2 (by omega) []
      have e4 := told_right (n := 294 - p.length) (m := mem s3 []) hp (by omega)
      rw [show 294 - p.length + 6 + p.length = 300 by omega] at e4
      have a0 : ixM (mem s3 []) (.lst [paperD p, x, y]) (.int 0) = some (paperD p) := rfl
      have e3 : rn 300 25 [.ref 1, pcs p] (mem s2 []) = .ok (.lst [paperD p, x, y]) (mem s3 []) := e3
      refine ⟨[paperD p, x, y], s3, by simp, ?_, fun z hz => ?_, k3, o3⟩
      · simp! only [hlen, h6, e3, a0, e4]
      · simp only [List.mem_cons, List.not_mem_nil, or_false] at hz
        rcases hz with rfl | rfl | rfl
        · exact paper_pap h8
        · exact hx
        · exact hy
    · refine ⟨[], s2, by simp, ?_, fun _ h => (nomatch h), by omega, o2⟩
      simp! only [hlen, h6]
  obtain ⟨LS, e4, hLS⟩ := least_ev (m := mem s3 []) (z0 := some (.frz (ns.map .int))) (z1 := some (.ref 1)) (z2 := some (.int most)) (z4 := some (.lst l)) (z5 := none) (z6 := none) (z7 := none) (z8 := none) (z10 := none) hp h8 l hpap
  have hL : l.length ≤ lim := lim10 (by omega)
  have hLl : LS.length ≤ 3 := by
    have : ∀ (l : List D) {env tc te m ys m'}, compLI (.nm 9) env tc te l m = some (ys, m') → ys.length ≤ l.length := by
      intro l
      induction l with
      | nil => intro env tc te m ys m' h; cases h; exact Nat.le_refl _
      | cons x r ih =>
        intro env tc te m ys m' h
        rw [compLI] at h
        obtain ⟨e, _, h⟩ := Option.bind_eq_some_iff.mp h
        obtain ⟨c, _, h⟩ := Option.bind_eq_some_iff.mp h
        split at h
        · obtain ⟨y, _, h⟩ := Option.bind_eq_some_iff.mp h
          obtain ⟨z, hz, h⟩ := Option.bind_eq_some_iff.mp h
          cases h
          have := ih hz
          simp only [List.length_cons]
          omega
        · have := ih h
          simp only [List.length_cons]
          omega
        · cases h
    have := this l e4
    rw [List.length_map] at this
    omega
  have hLL : (LS.map D.int).length ≤ lim := by rw [List.length_map]; exact lim10 (by omega)
  obtain ⟨t, s4, e5, t0, t1, k4, o4⟩ := next_run (n := 299) s3 o3 (by omega) 8 (by decide) (by decide) []
  obtain ⟨mt, hmt⟩ : ∃ mt : Nat, 1 + t = mt := ⟨(1 + t).toNat, by omega⟩
  have hr : rgOk ((mt : Nat) : Int) = true := rgOk_of (by omega) (by omega)
  have e0' : ∀ mm : M, cmpM mm .ne (.lst []) (.lst []) = some false := fun _ => rfl
  obtain ⟨envA, mA, fA, y6, y7, y8, sA, rfl, rfl, _⟩ := for_ok (t := .nm 6) (tb := evB (rn 300) gl0 xf0 l_law_0 none)
    (fun i env m => ∃ (y6 y7 y8 : Option D) (s : Dk), env = [some (.frz (ns.map .int)), some (.ref 1), some (.int most), some (pcs p), some (.lst l), some (.lst (LS.map .int)), y6, y7, y8, none, none] ∧ m = mem s [] ∧ s.Ok ∧ s.k ≤ s4.k + 100 * i)
    (rangeD 0 mt) [some (.frz (ns.map .int)), some (.ref 1), some (.int most), some (pcs p), some (.lst l), some (.lst (LS.map .int)), none, none, none, none, none] (mem s4 []) ⟨none, none, none, s4, rfl, rfl, o4, Nat.le_refl _⟩ (by
      rintro i hi env m1 ⟨y6, y7, y8, s, rfl, rfl, ok, hk⟩
      rw [rangeD_len] at hi
      obtain ⟨o, sa, ea, ho, hlo, ka, oa⟩ := order_run (n := 298) s ok (by omega) p.length h8 []
      obtain ⟨e, sb, eb, hle, kb, ob⟩ := scattered_run (n := 298) hp h8 ho sa oa (by omega) []
      have ea : gcD (mem s []) (rn 300 18 [.ref 1, .int (p.length : Int)] (mem s [])) = .ok (ords o) (mem sa []) := ea
      have eb : rn 300 24 [.ref 1, pcs p, ords o] (mem sa []) = .ok (.int e) (mem sb []) := eb
      have ec := bits_gc (n := 297) (m := mem sb []) hp h8 ho
      have ec : gcD (mem sb []) (rn 300 2 [pcs p, ords o] (mem sb [])) = .ok (.int (laidP p o).2) (mem sb []) := ec
      have hn : ¬ e < (laidP p o).2 := by omega
      have hb : ∀ b ∈ LS, b ≤ e := fun b hb => by
        have := hLS b hb o ho (by simpa using hlo)
        rw [List.nil_append] at this
        omega
      have ed := none_more (e := e) (m := mem sb []) (z0 := some (.frz (ns.map .int))) (z1 := some (.ref 1)) (z2 := some (.int most)) (z3 := some (pcs p)) (z4 := some (.lst l)) (z5 := some (.lst (LS.map .int))) (z6 := some (rangeD 0 mt)[i]) (z7 := some (ords o)) (z9 := none) hb
      have hsq : seqI (.lst (LS.map D.int)) = some (LS.map D.int) := rfl
      refine ⟨_, [some (.frz (ns.map .int)), some (.ref 1), some (.int most), some (pcs p), some (.lst l), some (.lst (LS.map .int)), some (rangeD 0 mt)[i], some (ords o), some (.int e), none, none], mem sb [], y_nm, ?_, some (rangeD 0 mt)[i], some (ords o), some (.int e), sb, rfl, rfl, ob, by omega⟩
      simp! only [l_law_0, hlen, ea, eb, hsq, y_compI hLL, ed, e0', ec, hn])
  refine ⟨mem sA [], ?_⟩
  have hsq : seqI (.lst l) = some l := rfl
  simp! only [b_law, e0, e1, em, e2, e3, hsq, y_compI hL, e4, e5, hmt, y_rng1 hr, Int.toNat_natCast, fA]
end Lw

namespace Lw
open PySem Pv L2
def top (i : Nat) : Stmt := PySem.Challenge.pw_packedforms_k35_whole_no_placing_has_few.main.body.getD i (.Pass ⟨0, 0, 0, 0⟩)
def cbody : Stmt → List Stmt
  | .ClassDef (body := b) .. => b
  | _ => []
def glo : List (Str × D) := [("MOST_LAID", (.int 8)), ("MOST_PART", (.int 4096)), ("ALIGNS", (.tup [(.int 1), (.int 8), (.int 16), (.int 32), (.int 64)]))]
def exs : List XC := []
def cls : List ClD := []
def tb : Tb := ⟨tab, glo, exs, cls, [], []⟩
theorem xf_eq : tb.xf = xf0 := by funext c; simp only [tb, exs, xf_cons, xf_nil, xf0]
theorem ck_0 : (scB f_upward (top 4) && isB tb (s0 f_upward (top 4)) f_upward.body (defBody (top 4))) = true := by decide +kernel
theorem pa_0 : plainArgs f_upward (top 4) := fun _ _ _ _ _ _ _ us hl => match us, hl with | [_, _], _ => rfl
theorem ck_1 : (scB f_laid (top 5) && isB tb (s0 f_laid (top 5)) f_laid.body (defBody (top 5))) = true := by decide +kernel
theorem pa_1 : plainArgs f_laid (top 5) := fun _ _ _ _ _ _ _ us hl => match us, hl with | [_, _], _ => rfl
theorem ck_2 : (scB f_bits_of (top 6) && isB tb (s0 f_bits_of (top 6)) f_bits_of.body (defBody (top 6))) = true := by decide +kernel
theorem pa_2 : plainArgs f_bits_of (top 6) := fun _ _ _ _ _ _ _ us hl => match us, hl with | [_, _], _ => rfl
theorem ck_3 : (scB f_all_orders (top 7) && isB tb (s0 f_all_orders (top 7)) f_all_orders.body (defBody (top 7))) = true := by decide +kernel
theorem pa_3 : plainArgs f_all_orders (top 7) := fun _ _ _ _ _ _ _ us hl => match us, hl with | [_], _ => rfl
theorem ck_4 : (scB f_left_of (top 8) && isB tb (s0 f_left_of (top 8)) f_left_of.body (defBody (top 8))) = true := by decide +kernel
theorem pa_4 : plainArgs f_left_of (top 8) := fun _ _ _ _ _ _ _ us hl => match us, hl with | [_, _], _ => rfl
theorem ck_5 : (scB f_is_cut (top 9) && isB tb (s0 f_is_cut (top 9)) f_is_cut.body (defBody (top 9))) = true := by decide +kernel
theorem pa_5 : plainArgs f_is_cut (top 9) := fun _ _ _ _ _ _ _ us hl => match us, hl with | [_, _, _], _ => rfl
theorem ck_6 : (scB f_tree_of (top 10) && isB tb (s0 f_tree_of (top 10)) f_tree_of.body (defBody (top 10))) = true := by decide +kernel
theorem pa_6 : plainArgs f_tree_of (top 10) := fun _ _ _ _ _ _ _ us hl => match us, hl with | [_, _, _], _ => rfl
theorem ck_7 : (scB f_fewest (top 11) && isB tb (s0 f_fewest (top 11)) f_fewest.body (defBody (top 11))) = true := by decide +kernel
theorem pa_7 : plainArgs f_fewest (top 11) := fun _ _ _ _ _ _ _ us hl => match us, hl with | [_], _ => rfl
theorem ck_8 : (scB f_is_whole (top 12) && isB tb (s0 f_is_whole (top 12)) f_is_whole.body (defBody (top 12))) = true := by decide +kernel
theorem pa_8 : plainArgs f_is_whole (top 12) := fun _ _ _ _ _ _ _ us hl => match us, hl with | [_], _ => rfl
theorem ck_9 : (scB f_is_part (top 13) && isB tb (s0 f_is_part (top 13)) f_is_part.body (defBody (top 13))) = true := by decide +kernel
theorem pa_9 : plainArgs f_is_part (top 13) := fun _ _ _ _ _ _ _ us hl => match us, hl with | [_], _ => rfl
theorem ck_10 : (scB f_are_parts (top 14) && isB tb (s0 f_are_parts (top 14)) f_are_parts.body (defBody (top 14))) = true := by decide +kernel
theorem pa_10 : plainArgs f_are_parts (top 14) := fun _ _ _ _ _ _ _ us hl => match us, hl with | [_], _ => rfl
theorem ck_11 : (scB f_is_order (top 15) && isB tb (s0 f_is_order (top 15)) f_is_order.body (defBody (top 15))) = true := by decide +kernel
theorem pa_11 : plainArgs f_is_order (top 15) := fun _ _ _ _ _ _ _ us hl => match us, hl with | [_, _], _ => rfl
theorem ck_12 : (scB f_tree_fault (top 16) && isB tb (s0 f_tree_fault (top 16)) f_tree_fault.body (defBody (top 16))) = true := by decide +kernel
theorem pa_12 : plainArgs f_tree_fault (top 16) := fun _ _ _ _ _ _ _ us hl => match us, hl with | [_, _, _, _], _ => rfl
theorem ck_13 : (scB f_orderfault (top 17) && isB tb (s0 f_orderfault (top 17)) f_orderfault.body (defBody (top 17))) = true := by decide +kernel
theorem pa_13 : plainArgs f_orderfault (top 17) := fun _ _ _ _ _ _ _ us hl => match us, hl with | [_, _], _ => rfl
theorem ck_14 : (scB f__law_draws (top 19) && isB tb (s0 f__law_draws (top 19)) f__law_draws.body (defBody (top 19))) = true := by decide +kernel
theorem pa_14 : plainArgs f__law_draws (top 19) := fun _ _ _ _ _ _ _ us hl => match us, hl with | [_], _ => rfl
theorem ck_15 : (scB f__law_next (top 20) && isB tb (s0 f__law_next (top 20)) f__law_next.body (defBody (top 20))) = true := by decide +kernel
theorem pa_15 : plainArgs f__law_next (top 20) := fun _ _ _ _ _ _ _ us hl => match us, hl with | [_, _], _ => rfl
theorem ck_16 : (scB f__law_measure (top 22) && isB tb (s0 f__law_measure (top 22)) f__law_measure.body (defBody (top 22))) = true := by decide +kernel
theorem pa_16 : plainArgs f__law_measure (top 22) := fun _ _ _ _ _ _ _ us hl => match us, hl with | [_], _ => rfl
theorem ck_17 : (scB f__law_parts (top 23) && isB tb (s0 f__law_parts (top 23)) f__law_parts.body (defBody (top 23))) = true := by decide +kernel
theorem pa_17 : plainArgs f__law_parts (top 23) := fun _ _ _ _ _ _ _ us hl => match us, hl with | [_, _], _ => rfl
theorem ck_18 : (scB f__law_any_order (top 24) && isB tb (s0 f__law_any_order (top 24)) f__law_any_order.body (defBody (top 24))) = true := by decide +kernel
theorem pa_18 : plainArgs f__law_any_order (top 24) := fun _ _ _ _ _ _ _ us hl => match us, hl with | [_, _], _ => rfl
theorem ck_19 : (scB f__law_up (top 25) && isB tb (s0 f__law_up (top 25)) f__law_up.body (defBody (top 25))) = true := by decide +kernel
theorem pa_19 : plainArgs f__law_up (top 25) := fun _ _ _ _ _ _ _ us hl => match us, hl with | [_, _], _ => rfl
theorem ck_20 : (scB f__law_laid (top 26) && isB tb (s0 f__law_laid (top 26)) f__law_laid.body (defBody (top 26))) = true := by decide +kernel
theorem pa_20 : plainArgs f__law_laid (top 26) := fun _ _ _ _ _ _ _ us hl => match us, hl with | [_, _], _ => rfl
theorem ck_21 : (scB f__law_left (top 27) && isB tb (s0 f__law_left (top 27)) f__law_left.body (defBody (top 27))) = true := by decide +kernel
theorem pa_21 : plainArgs f__law_left (top 27) := fun _ _ _ _ _ _ _ us hl => match us, hl with | [_, _], _ => rfl
theorem ck_22 : (scB f__law_cut (top 28) && isB tb (s0 f__law_cut (top 28)) f__law_cut.body (defBody (top 28))) = true := by decide +kernel
theorem pa_22 : plainArgs f__law_cut (top 28) := fun _ _ _ _ _ _ _ us hl => match us, hl with | [_, _, _], _ => rfl
theorem ck_23 : (scB f__law_tree (top 29) && isB tb (s0 f__law_tree (top 29)) f__law_tree.body (defBody (top 29))) = true := by decide +kernel
theorem pa_23 : plainArgs f__law_tree (top 29) := fun _ _ _ _ _ _ _ us hl => match us, hl with | [_, _, _, _, _], _ => rfl
theorem ck_24 : (scB f__law_scattered (top 30) && isB tb (s0 f__law_scattered (top 30)) f__law_scattered.body (defBody (top 30))) = true := by decide +kernel
theorem pa_24 : plainArgs f__law_scattered (top 30) := fun _ _ _ _ _ _ _ us hl => match us, hl with | [_, _, _], _ => rfl
theorem ck_25 : (scB f__law_papers (top 31) && isB tb (s0 f__law_papers (top 31)) f__law_papers.body (defBody (top 31))) = true := by decide +kernel
theorem pa_25 : plainArgs f__law_papers (top 31) := fun _ _ _ _ _ _ _ us hl => match us, hl with | [_, _], _ => rfl
theorem ck_26 : (scB f_law (top 32) && isB tb (s0 f_law (top 32)) f_law.body (defBody (top 32))) = true := by decide +kernel
theorem pa_26 : plainArgs f_law (top 32) := fun _ _ _ _ _ _ _ us hl => match us, hl with | [_], _ => rfl
theorem hyp {K : PySem.W.Frag} (d0 : defIn K "upward" "upward" (top 4)) (d1 : defIn K "laid" "laid" (top 5)) (d2 : defIn K "bits_of" "bits_of" (top 6)) (d3 : defIn K "all_orders" "all_orders" (top 7)) (d4 : defIn K "left_of" "left_of" (top 8)) (d5 : defIn K "is_cut" "is_cut" (top 9)) (d6 : defIn K "tree_of" "tree_of" (top 10)) (d7 : defIn K "fewest" "fewest" (top 11)) (d8 : defIn K "is_whole" "is_whole" (top 12)) (d9 : defIn K "is_part" "is_part" (top 13)) (d10 : defIn K "are_parts" "are_parts" (top 14)) (d11 : defIn K "is_order" "is_order" (top 15)) (d12 : defIn K "tree_fault" "tree_fault" (top 16)) (d13 : defIn K "orderfault" "orderfault" (top 17)) (d14 : defIn K "_law_draws" "_law_draws" (top 19)) (d15 : defIn K "_law_next" "_law_next" (top 20)) (d16 : defIn K "_law_measure" "_law_measure" (top 22)) (d17 : defIn K "_law_parts" "_law_parts" (top 23)) (d18 : defIn K "_law_any_order" "_law_any_order" (top 24)) (d19 : defIn K "_law_up" "_law_up" (top 25)) (d20 : defIn K "_law_laid" "_law_laid" (top 26)) (d21 : defIn K "_law_left" "_law_left" (top 27)) (d22 : defIn K "_law_cut" "_law_cut" (top 28)) (d23 : defIn K "_law_tree" "_law_tree" (top 29)) (d24 : defIn K "_law_scattered" "_law_scattered" (top 30)) (d25 : defIn K "_law_papers" "_law_papers" (top 31)) (d26 : defIn K "law" "law" (top 32))  : ∀ (i : Nat) (fd : FnD), tb.T[i]? = some fd → ∃ st, fdIn K tb fd st ∧ scB fd st = true ∧ isB tb (s0 fd st) fd.body (defBody st) = true
  | 0, _, rfl => ⟨(top 4), .inr (.inl ⟨rfl, rfl, pa_0, d0⟩), (Bool.and_eq_true_iff.mp ck_0).1, (Bool.and_eq_true_iff.mp ck_0).2⟩
  | 1, _, rfl => ⟨(top 5), .inr (.inl ⟨rfl, rfl, pa_1, d1⟩), (Bool.and_eq_true_iff.mp ck_1).1, (Bool.and_eq_true_iff.mp ck_1).2⟩
  | 2, _, rfl => ⟨(top 6), .inr (.inl ⟨rfl, rfl, pa_2, d2⟩), (Bool.and_eq_true_iff.mp ck_2).1, (Bool.and_eq_true_iff.mp ck_2).2⟩
  | 3, _, rfl => ⟨(top 7), .inr (.inl ⟨rfl, rfl, pa_3, d3⟩), (Bool.and_eq_true_iff.mp ck_3).1, (Bool.and_eq_true_iff.mp ck_3).2⟩
  | 4, _, rfl => ⟨(top 8), .inr (.inl ⟨rfl, rfl, pa_4, d4⟩), (Bool.and_eq_true_iff.mp ck_4).1, (Bool.and_eq_true_iff.mp ck_4).2⟩
  | 5, _, rfl => ⟨(top 9), .inr (.inl ⟨rfl, rfl, pa_5, d5⟩), (Bool.and_eq_true_iff.mp ck_5).1, (Bool.and_eq_true_iff.mp ck_5).2⟩
  | 6, _, rfl => ⟨(top 10), .inr (.inl ⟨rfl, rfl, pa_6, d6⟩), (Bool.and_eq_true_iff.mp ck_6).1, (Bool.and_eq_true_iff.mp ck_6).2⟩
  | 7, _, rfl => ⟨(top 11), .inr (.inl ⟨rfl, rfl, pa_7, d7⟩), (Bool.and_eq_true_iff.mp ck_7).1, (Bool.and_eq_true_iff.mp ck_7).2⟩
  | 8, _, rfl => ⟨(top 12), .inr (.inl ⟨rfl, rfl, pa_8, d8⟩), (Bool.and_eq_true_iff.mp ck_8).1, (Bool.and_eq_true_iff.mp ck_8).2⟩
  | 9, _, rfl => ⟨(top 13), .inr (.inl ⟨rfl, rfl, pa_9, d9⟩), (Bool.and_eq_true_iff.mp ck_9).1, (Bool.and_eq_true_iff.mp ck_9).2⟩
  | 10, _, rfl => ⟨(top 14), .inr (.inl ⟨rfl, rfl, pa_10, d10⟩), (Bool.and_eq_true_iff.mp ck_10).1, (Bool.and_eq_true_iff.mp ck_10).2⟩
  | 11, _, rfl => ⟨(top 15), .inr (.inl ⟨rfl, rfl, pa_11, d11⟩), (Bool.and_eq_true_iff.mp ck_11).1, (Bool.and_eq_true_iff.mp ck_11).2⟩
  | 12, _, rfl => ⟨(top 16), .inr (.inl ⟨rfl, rfl, pa_12, d12⟩), (Bool.and_eq_true_iff.mp ck_12).1, (Bool.and_eq_true_iff.mp ck_12).2⟩
  | 13, _, rfl => ⟨(top 17), .inr (.inl ⟨rfl, rfl, pa_13, d13⟩), (Bool.and_eq_true_iff.mp ck_13).1, (Bool.and_eq_true_iff.mp ck_13).2⟩
  | 14, _, rfl => ⟨(top 19), .inr (.inl ⟨rfl, rfl, pa_14, d14⟩), (Bool.and_eq_true_iff.mp ck_14).1, (Bool.and_eq_true_iff.mp ck_14).2⟩
  | 15, _, rfl => ⟨(top 20), .inr (.inl ⟨rfl, rfl, pa_15, d15⟩), (Bool.and_eq_true_iff.mp ck_15).1, (Bool.and_eq_true_iff.mp ck_15).2⟩
  | 16, _, rfl => ⟨(top 22), .inr (.inl ⟨rfl, rfl, pa_16, d16⟩), (Bool.and_eq_true_iff.mp ck_16).1, (Bool.and_eq_true_iff.mp ck_16).2⟩
  | 17, _, rfl => ⟨(top 23), .inr (.inl ⟨rfl, rfl, pa_17, d17⟩), (Bool.and_eq_true_iff.mp ck_17).1, (Bool.and_eq_true_iff.mp ck_17).2⟩
  | 18, _, rfl => ⟨(top 24), .inr (.inl ⟨rfl, rfl, pa_18, d18⟩), (Bool.and_eq_true_iff.mp ck_18).1, (Bool.and_eq_true_iff.mp ck_18).2⟩
  | 19, _, rfl => ⟨(top 25), .inr (.inl ⟨rfl, rfl, pa_19, d19⟩), (Bool.and_eq_true_iff.mp ck_19).1, (Bool.and_eq_true_iff.mp ck_19).2⟩
  | 20, _, rfl => ⟨(top 26), .inr (.inl ⟨rfl, rfl, pa_20, d20⟩), (Bool.and_eq_true_iff.mp ck_20).1, (Bool.and_eq_true_iff.mp ck_20).2⟩
  | 21, _, rfl => ⟨(top 27), .inr (.inl ⟨rfl, rfl, pa_21, d21⟩), (Bool.and_eq_true_iff.mp ck_21).1, (Bool.and_eq_true_iff.mp ck_21).2⟩
  | 22, _, rfl => ⟨(top 28), .inr (.inl ⟨rfl, rfl, pa_22, d22⟩), (Bool.and_eq_true_iff.mp ck_22).1, (Bool.and_eq_true_iff.mp ck_22).2⟩
  | 23, _, rfl => ⟨(top 29), .inr (.inl ⟨rfl, rfl, pa_23, d23⟩), (Bool.and_eq_true_iff.mp ck_23).1, (Bool.and_eq_true_iff.mp ck_23).2⟩
  | 24, _, rfl => ⟨(top 30), .inr (.inl ⟨rfl, rfl, pa_24, d24⟩), (Bool.and_eq_true_iff.mp ck_24).1, (Bool.and_eq_true_iff.mp ck_24).2⟩
  | 25, _, rfl => ⟨(top 31), .inr (.inl ⟨rfl, rfl, pa_25, d25⟩), (Bool.and_eq_true_iff.mp ck_25).1, (Bool.and_eq_true_iff.mp ck_25).2⟩
  | 26, _, rfl => ⟨(top 32), .inr (.inl ⟨rfl, rfl, pa_26, d26⟩), (Bool.and_eq_true_iff.mp ck_26).1, (Bool.and_eq_true_iff.mp ck_26).2⟩
  | _ + 27, _, h => nomatch h
theorem hypX {K : PySem.W.Frag}  : ∀ t ∈ tb.X, ∃ st N ps, XS t st N ps ∧ excI K t st := by
  intro t ht
  simp only [tb, exs, List.mem_cons, List.not_mem_nil, or_false] at ht
theorem glob {w : World} {K : PySem.W.Frag} {h : Heap} {mg : Str → Option Value} (X : K.In h) (Gn : h.Ns mainGlobals mg) (z0 : PySem.W.nsIn K mainGlobals "len" = some none) (z1 : PySem.W.nsIn K mainGlobals "int" = some none) (z2 : PySem.W.nsIn K mainGlobals "tuple" = some none) (z3 : PySem.W.nsIn K mainGlobals "list" = some none) (z4 : PySem.W.nsIn K mainGlobals "sum" = some none) (z5 : PySem.W.nsIn K mainGlobals "all" = some none) (z6 : PySem.W.nsIn K mainGlobals "any" = some none) (z7 : PySem.W.nsIn K mainGlobals "max" = some none) (z8 : PySem.W.nsIn K mainGlobals "min" = some none) (z9 : PySem.W.nsIn K mainGlobals "isinstance" = some none) (z10 : PySem.W.nsIn K mainGlobals "range" = some none) (z11 : PySem.W.nsIn K mainGlobals "zip" = some none) (z12 : PySem.W.nsIn K mainGlobals "bool" = some none) (z13 : PySem.W.nsIn K mainGlobals "str" = some none) (z14 : PySem.W.nsIn K mainGlobals "sorted" = some none) (z15 : PySem.W.nsIn K mainGlobals "Exception" = some none) (z16 : PySem.W.nsIn K mainGlobals "enumerate" = some none) {t0 : Tok} (g0 : PySem.W.nsIn K mainGlobals "MOST_LAID" = some (some (.int 8 t0))) {t1 : Tok} (g1 : PySem.W.nsIn K mainGlobals "MOST_PART" = some (some (.int 4096 t1))) {a2 : Addr} {o2 : Obj} {t2_0 t2_1 t2_2 t2_3 t2_4 : Tok} {n2 : Nat} (g2 : PySem.W.nsIn K mainGlobals "ALIGNS" = some (some (.ref a2))) (l2 : K.lookup a2 = some o2) (cc2 : o2.cls = .type "tuple") (e2 : o2.data = .seq #[.int 1 t2_0, .int 8 t2_1, .int 16 t2_2, .int 32 t2_3, .int 64 t2_4] n2)    : Glo w K mg tb := by
  refine glo_of X Gn (fun x hx => ?_) (fun i x d e => ?_) (fun t ht c hc => ?_) (fun c hc => ?_) (fun k hk => ?_) (fun p hp => ?_)
  · simp only [bnames, List.mem_cons, List.not_mem_nil, or_false] at hx
    rcases hx with rfl | rfl | rfl | rfl | rfl | rfl | rfl | rfl | rfl | rfl | rfl | rfl | rfl | rfl | rfl | rfl | rfl
    · exact z0
    · exact z1
    · exact z2
    · exact z3
    · exact z4
    · exact z5
    · exact z6
    · exact z7
    · exact z8
    · exact z9
    · exact z10
    · exact z11
    · exact z12
    · exact z13
    · exact z14
    · exact z15
    · exact z16
  · match i, e with
    | 0, rfl => exact ⟨.int 8, .int 8 t0, g0, ⟨t0, rfl⟩, fun _ _ _ => .int _⟩
    | 1, rfl => exact ⟨.int 4096, .int 4096 t1, g1, ⟨t1, rfl⟩, fun _ _ _ => .int _⟩
    | 2, rfl => exact ⟨.ref a2, .ref a2, g2, rfl, fun _ _ H => .tup (show SqT K H a2 [.int 1, .int 8, .int 16, .int 32, .int 64] from .inr ⟨o2, _, n2, l2, cc2, e2, by simp [sizeLine_eq], .cons ⟨_, rfl⟩ (.cons ⟨_, rfl⟩ (.cons ⟨_, rfl⟩ (.cons ⟨_, rfl⟩ (.cons ⟨_, rfl⟩ (.nil)))))⟩) (.cons (.int _) (.cons (.int _) (.cons (.int _) (.cons (.int _) (.cons (.int _) (.nil))))))⟩
    | _ + 3, e => exact nomatch e
  · simp only [tb, exs, List.mem_cons, List.not_mem_nil, or_false] at ht
  · simp only [tb, exs, Tb.qs, List.map_cons, List.map_nil, List.cons_append, List.nil_append, List.mem_cons, List.not_mem_nil, or_false] at hc
  · simp only [tb, cls, List.mem_cons, List.not_mem_nil, or_false] at hk
  · simp only [tb, List.mem_cons, List.not_mem_nil, or_false] at hp
theorem mainB : ∀ ns : List Int, ns.length ≤ 63 → ∃ m', run tb.T (gv tb.G) tb.xf (300 + 1) 26 [.frz (ns.map .int)] [] = .ok (.bl true) m' := by rw [xf_eq]; exact main
theorem hypL {K : PySem.W.Frag} {ts : List Addr} {c7_ P7_ : Addr} (lam7 : LamAt K "fewest" c7_ P7_ ts) : ∀ (i : Nat) (fd : FnD), tb.T[i]? = some fd → fd.lm = true → @lamAll ⟨[(c7_, P7_, lamQ "fewest")]⟩ K fd
  | 0, _, rfl, h => nomatch h
  | 1, _, rfl, h => nomatch h
  | 2, _, rfl, h => nomatch h
  | 3, _, rfl, h => nomatch h
  | 4, _, rfl, h => nomatch h
  | 5, _, rfl, h => nomatch h
  | 6, _, rfl, h => nomatch h
  | 7, _, rfl, _ => @lamAll.mk ⟨[(c7_, P7_, lamQ "fewest")]⟩ _ _ rfl ⟨(c7_, P7_, lamQ "fewest"), by simp [TabT.cs], rfl, lam7.at_⟩
  | 8, _, rfl, h => nomatch h
  | 9, _, rfl, h => nomatch h
  | 10, _, rfl, h => nomatch h
  | 11, _, rfl, h => nomatch h
  | 12, _, rfl, h => nomatch h
  | 13, _, rfl, h => nomatch h
  | 14, _, rfl, h => nomatch h
  | 15, _, rfl, h => nomatch h
  | 16, _, rfl, h => nomatch h
  | 17, _, rfl, h => nomatch h
  | 18, _, rfl, h => nomatch h
  | 19, _, rfl, h => nomatch h
  | 20, _, rfl, h => nomatch h
  | 21, _, rfl, h => nomatch h
  | 22, _, rfl, h => nomatch h
  | 23, _, rfl, h => nomatch h
  | 24, _, rfl, h => nomatch h
  | 25, _, rfl, h => nomatch h
  | 26, _, rfl, h => nomatch h
  | _ + 27, _, h, _ => nomatch h
theorem all {w : World} {K : PySem.W.Frag} {h : Heap} {mg : Str → Option Value} {ts : List Addr} (X : K.In h) (Gn : h.Ns mainGlobals mg) (hts : ∀ P ∈ ts, h.get? P = some (PySem.W.tabObj #[])) (d0 : defIn K "upward" "upward" (top 4)) (d1 : defIn K "laid" "laid" (top 5)) (d2 : defIn K "bits_of" "bits_of" (top 6)) (d3 : defIn K "all_orders" "all_orders" (top 7)) (d4 : defIn K "left_of" "left_of" (top 8)) (d5 : defIn K "is_cut" "is_cut" (top 9)) (d6 : defIn K "tree_of" "tree_of" (top 10)) (d7 : defIn K "fewest" "fewest" (top 11)) (d8 : defIn K "is_whole" "is_whole" (top 12)) (d9 : defIn K "is_part" "is_part" (top 13)) (d10 : defIn K "are_parts" "are_parts" (top 14)) (d11 : defIn K "is_order" "is_order" (top 15)) (d12 : defIn K "tree_fault" "tree_fault" (top 16)) (d13 : defIn K "orderfault" "orderfault" (top 17)) (d14 : defIn K "_law_draws" "_law_draws" (top 19)) (d15 : defIn K "_law_next" "_law_next" (top 20)) (d16 : defIn K "_law_measure" "_law_measure" (top 22)) (d17 : defIn K "_law_parts" "_law_parts" (top 23)) (d18 : defIn K "_law_any_order" "_law_any_order" (top 24)) (d19 : defIn K "_law_up" "_law_up" (top 25)) (d20 : defIn K "_law_laid" "_law_laid" (top 26)) (d21 : defIn K "_law_left" "_law_left" (top 27)) (d22 : defIn K "_law_cut" "_law_cut" (top 28)) (d23 : defIn K "_law_tree" "_law_tree" (top 29)) (d24 : defIn K "_law_scattered" "_law_scattered" (top 30)) (d25 : defIn K "_law_papers" "_law_papers" (top 31)) (d26 : defIn K "law" "law" (top 32))   (z0 : PySem.W.nsIn K mainGlobals "len" = some none) (z1 : PySem.W.nsIn K mainGlobals "int" = some none) (z2 : PySem.W.nsIn K mainGlobals "tuple" = some none) (z3 : PySem.W.nsIn K mainGlobals "list" = some none) (z4 : PySem.W.nsIn K mainGlobals "sum" = some none) (z5 : PySem.W.nsIn K mainGlobals "all" = some none) (z6 : PySem.W.nsIn K mainGlobals "any" = some none) (z7 : PySem.W.nsIn K mainGlobals "max" = some none) (z8 : PySem.W.nsIn K mainGlobals "min" = some none) (z9 : PySem.W.nsIn K mainGlobals "isinstance" = some none) (z10 : PySem.W.nsIn K mainGlobals "range" = some none) (z11 : PySem.W.nsIn K mainGlobals "zip" = some none) (z12 : PySem.W.nsIn K mainGlobals "bool" = some none) (z13 : PySem.W.nsIn K mainGlobals "str" = some none) (z14 : PySem.W.nsIn K mainGlobals "sorted" = some none) (z15 : PySem.W.nsIn K mainGlobals "Exception" = some none) (z16 : PySem.W.nsIn K mainGlobals "enumerate" = some none) {t0 : Tok} (g0 : PySem.W.nsIn K mainGlobals "MOST_LAID" = some (some (.int 8 t0))) {t1 : Tok} (g1 : PySem.W.nsIn K mainGlobals "MOST_PART" = some (some (.int 4096 t1))) {a2 : Addr} {o2 : Obj} {t2_0 t2_1 t2_2 t2_3 t2_4 : Tok} {n2 : Nat} (g2 : PySem.W.nsIn K mainGlobals "ALIGNS" = some (some (.ref a2))) (l2 : K.lookup a2 = some o2) (cc2 : o2.cls = .type "tuple") (e2 : o2.data = .seq #[.int 1 t2_0, .int 8 t2_1, .int 16 t2_2, .int 32 t2_3, .int 64 t2_4] n2)   {c7_ P7_ : Addr} (lam7 : LamAt K "fewest" c7_ P7_ ts) (onep : ([P7_] : List Addr).Nodup) : ∃ T : TabT, @Tab T K mg tb ∧ Glo w K mg tb ∧ ∀ p ∈ T.cs, PySem.W.codeHdIn K p.1 p.2.1 = true ∧ K.lookup p.2.1 = none ∧ h.get? p.2.1 = some { cls := .none, data := .fields #[] } :=
  ⟨⟨[(c7_, P7_, lamQ "fewest")]⟩, @tab_of ⟨[(c7_, P7_, lamQ "fewest")]⟩ _ _ _ _ X Gn (PySem.W.mg_none_of X Gn z15) (hyp d0 d1 d2 d3 d4 d5 d6 d7 d8 d9 d10 d11 d12 d13 d14 d15 d16 d17 d18 d19 d20 d21 d22 d23 d24 d25 d26 ) (hypX ) (hypL lam7) (@oneP_of ⟨[(c7_, P7_, lamQ "fewest")]⟩ onep), glob X Gn z0 z1 z2 z3 z4 z5 z6 z7 z8 z9 z10 z11 z12 z13 z14 z15 z16 g0 g1 g2 l2 cc2 e2   , by
    intro p hp
    simp only [List.mem_cons, List.not_mem_nil, or_false] at hp
    rcases hp with rfl
    · exact ⟨lam7.hd, lam7.no, hts _ lam7.mem⟩
  ⟩
end Lw
open PySem PySem.W PyProof.Rows
set_option maxRecDepth 100000 in
set_option maxHeartbeats 0 in
theorem PySem.Challenge.cw_packedforms_k35_whole_no_placing_has_few_holds : PySem.Challenge.rw_packedforms_k35_whole_no_placing_has_few.Holds := by
  w_on; o_law; k_head; (case hw => w_witness2)
  k_fill
  refine Pv.law_walkT (l := PySem.Challenge.rw_packedforms_k35_whole_no_placing_has_few) (B := Lw.tb) (N := 300) (li := 26) (fd := Lw.f_law) rfl rfl ⟨rfl, by decide, by decide⟩ rfl rfl rfl rfl rfl (fun w h Y => PySem.W.km_in_of Y) ?F Lw.mainB
  case F =>
    intro w mg h Y KX G
    refine' Lw.all KX G (PySem.W.km_tabs_of Y) ?dq0 ?dq1 ?dq2 ?dq3 ?dq4 ?dq5 ?dq6 ?dq7 ?dq8 ?dq9 ?dq10 ?dq11 ?dq12 ?dq13 ?dq14 ?dq15 ?dq16 ?dq17 ?dq18 ?dq19 ?dq20 ?dq21 ?dq22 ?dq23 ?dq24 ?dq25 ?dq26 ?zq0 ?zq1 ?zq2 ?zq3 ?zq4 ?zq5 ?zq6 ?zq7 ?zq8 ?zq9 ?zq10 ?zq11 ?zq12 ?zq13 ?zq14 ?zq15 ?zq16 ?gq0 ?gq1 ?gq2 ?lq2 ?cq2 ?eq2 ?mq7 ?oq
    case dq0 => refine' Pv.defIn_mk ?a ?l ?c ?k; (case a => k_is); (case l => k_is); (case c => k_is); (case k => k_is)
    case dq1 => refine' Pv.defIn_mk ?a ?l ?c ?k; (case a => k_is); (case l => k_is); (case c => k_is); (case k => k_is)
    case dq2 => refine' Pv.defIn_mk ?a ?l ?c ?k; (case a => k_is); (case l => k_is); (case c => k_is); (case k => k_is)
    case dq3 => refine' Pv.defIn_mk ?a ?l ?c ?k; (case a => k_is); (case l => k_is); (case c => k_is); (case k => k_is)
    case dq4 => refine' Pv.defIn_mk ?a ?l ?c ?k; (case a => k_is); (case l => k_is); (case c => k_is); (case k => k_is)
    case dq5 => refine' Pv.defIn_mk ?a ?l ?c ?k; (case a => k_is); (case l => k_is); (case c => k_is); (case k => k_is)
    case dq6 => refine' Pv.defIn_mk ?a ?l ?c ?k; (case a => k_is); (case l => k_is); (case c => k_is); (case k => k_is)
    case dq7 => refine' Pv.defIn_mk ?a ?l ?c ?k; (case a => k_is); (case l => k_is); (case c => k_is); (case k => k_is)
    case dq8 => refine' Pv.defIn_mk ?a ?l ?c ?k; (case a => k_is); (case l => k_is); (case c => k_is); (case k => k_is)
    case dq9 => refine' Pv.defIn_mk ?a ?l ?c ?k; (case a => k_is); (case l => k_is); (case c => k_is); (case k => k_is)
    case dq10 => refine' Pv.defIn_mk ?a ?l ?c ?k; (case a => k_is); (case l => k_is); (case c => k_is); (case k => k_is)
    case dq11 => refine' Pv.defIn_mk ?a ?l ?c ?k; (case a => k_is); (case l => k_is); (case c => k_is); (case k => k_is)
    case dq12 => refine' Pv.defIn_mk ?a ?l ?c ?k; (case a => k_is); (case l => k_is); (case c => k_is); (case k => k_is)
    case dq13 => refine' Pv.defIn_mk ?a ?l ?c ?k; (case a => k_is); (case l => k_is); (case c => k_is); (case k => k_is)
    case dq14 => refine' Pv.defIn_mk ?a ?l ?c ?k; (case a => k_is); (case l => k_is); (case c => k_is); (case k => k_is)
    case dq15 => refine' Pv.defIn_mk ?a ?l ?c ?k; (case a => k_is); (case l => k_is); (case c => k_is); (case k => k_is)
    case dq16 => refine' Pv.defIn_mk ?a ?l ?c ?k; (case a => k_is); (case l => k_is); (case c => k_is); (case k => k_is)
    case dq17 => refine' Pv.defIn_mk ?a ?l ?c ?k; (case a => k_is); (case l => k_is); (case c => k_is); (case k => k_is)
    case dq18 => refine' Pv.defIn_mk ?a ?l ?c ?k; (case a => k_is); (case l => k_is); (case c => k_is); (case k => k_is)
    case dq19 => refine' Pv.defIn_mk ?a ?l ?c ?k; (case a => k_is); (case l => k_is); (case c => k_is); (case k => k_is)
    case dq20 => refine' Pv.defIn_mk ?a ?l ?c ?k; (case a => k_is); (case l => k_is); (case c => k_is); (case k => k_is)
    case dq21 => refine' Pv.defIn_mk ?a ?l ?c ?k; (case a => k_is); (case l => k_is); (case c => k_is); (case k => k_is)
    case dq22 => refine' Pv.defIn_mk ?a ?l ?c ?k; (case a => k_is); (case l => k_is); (case c => k_is); (case k => k_is)
    case dq23 => refine' Pv.defIn_mk ?a ?l ?c ?k; (case a => k_is); (case l => k_is); (case c => k_is); (case k => k_is)
    case dq24 => refine' Pv.defIn_mk ?a ?l ?c ?k; (case a => k_is); (case l => k_is); (case c => k_is); (case k => k_is)
    case dq25 => refine' Pv.defIn_mk ?a ?l ?c ?k; (case a => k_is); (case l => k_is); (case c => k_is); (case k => k_is)
    case dq26 => refine' Pv.defIn_mk ?a ?l ?c ?k; (case a => k_is); (case l => k_is); (case c => k_is); (case k => k_is)
    case mq7 => refine' Pv.lamAt_mk (own := "fewest") (st := (Lw.top 11)) ?lamx7a ?lamx7b ?lamx7c ?lamx7d ?lamx7e ?lamx7f ?lamx7g; (case lamx7a => k_is); (case lamx7b => k_is); (case lamx7c => k_is); (case lamx7d => rfl); (case lamx7e => kernel_rfl); (case lamx7f => kernel_rfl); (case lamx7g => decide)
    case oq => decide
    case zq0 => k_is
    case zq1 => k_is
    case zq2 => k_is
    case zq3 => k_is
    case zq4 => k_is
    case zq5 => k_is
    case zq6 => k_is
    case zq7 => k_is
    case zq8 => k_is
    case zq9 => k_is
    case zq10 => k_is
    case zq11 => k_is
    case zq12 => k_is
    case zq13 => k_is
    case zq14 => k_is
    case zq15 => k_is
    case zq16 => k_is
    case gq0 => k_is
    case gq1 => k_is
    case gq2 => k_is
    case lq2 => k_is
    case cq2 => rfl
    case eq2 => rfl

