import PyProof.Rows.All
import Wide.All
import OpenK.AllK
import Wide.FinOn
import HandS.ForMost
import HandS.Evl
import HandS.Zip
import HandS.IsInst
import HandS.Conv
import HandS.TupAny
import HandS.Wide
import HandS.NoneIn
import HandS.TupMul
import HandS.SortInts
import KE.GoesEnumKw
import HandS.Style
import HandS.FStr
import PyProof.Rows.StrRev
import PySem.Challenge.RW_packedforms_k02_kinds_shown
set_option Elab.async false
set_option maxRecDepth 100000
set_option linter.all false
set_option autoImplicit false
set_option maxHeartbeats 4000000
namespace Pv
open PySem

/-! ## data -/
inductive D where
  | non | bl (b : Bool) | int (i : Int) | str (x : Str) | tup (xs : List D) | lst (xs : List D) | frz (xs : List D) | ref (l : Nat)
  deriving Inhabited
inductive MO where
  | lst (xs : List D)
  deriving Inhabited
abbrev M := List MO
abbrev Env := List (Option D)

mutual
def beqD : D → D → Bool
  | .non, .non => true
  | .bl a, .bl b => a == b
  | .int a, .int b => decide (a = b)
  | .str a, .str b => decide (a = b)
  | .tup a, .tup b => beqDs a b
  | .lst a, .lst b => beqDs a b
  | .frz a, .frz b => beqDs a b
  | .ref a, .ref b => decide (a = b)
  | _, _ => false
def beqDs : List D → List D → Bool
  | [], [] => true
  | a :: r, b :: q => beqD a b && beqDs r q
  | _, _ => false
end
mutual
theorem beqD_eq : ∀ {a b : D}, beqD a b = true ↔ a = b
  | .non, b => by cases b <;> simp [beqD]
  | .bl _, b => by cases b <;> simp [beqD]
  | .int _, b => by cases b <;> simp [beqD]
  | .str _, b => by cases b <;> simp [beqD]
  | .tup x, b => by cases b <;> simp [beqD, beqDs_eq (a := x)]
  | .lst x, b => by cases b <;> simp [beqD, beqDs_eq (a := x)]
  | .frz x, b => by cases b <;> simp [beqD, beqDs_eq (a := x)]
  | .ref _, b => by cases b <;> simp [beqD]
theorem beqDs_eq : ∀ {a b : List D}, beqDs a b = true ↔ a = b
  | [], b => by cases b <;> simp [beqDs]
  | x :: r, b => by cases b <;> simp [beqDs, beqD_eq (a := x), beqDs_eq (a := r)]
end
instance : DecidableEq D := fun a b => decidable_of_iff (beqD a b = true) beqD_eq
instance : DecidableEq MO := fun a b => match a, b with
  | .lst x, .lst y => decidable_of_iff (x = y) (by simp)

/-! no reference to a mutable thing (nor the script) within -/
mutual
def pure_ : D → Bool
  | .tup xs => pures xs
  | .lst xs => pures xs
  | .frz _ => false
  | .ref _ => false
  | _ => true
def pures : List D → Bool
  | [] => true
  | x :: r => pure_ x && pures r
end
mutual
def toP : D → PyData
  | .non => .none
  | .bl b => .bool b
  | .int i => .int i
  | .str x => .str x
  | .tup xs => .tuple (toPs xs)
  | .lst xs => .list (toPs xs)
  | .frz _ => .none
  | .ref _ => .none
def toPs : List D → List PyData
  | [] => []
  | x :: r => toP x :: toPs r
end

def lim : Nat := 16777216
/-- what is read at a value -/
def deref (m : M) : D → D
  | .ref l => match m[l]? with
    | some (.lst xs) => .lst xs
    | none => .ref l
  | d => d

/-! ## the form of the terms -/
inductive BOp where
  | add | sub | mul | fdiv | mod | pow
  deriving DecidableEq
inductive COp where
  | eq | ne | lt | le | gt | ge | isin | notin
  deriving DecidableEq
inductive BI where
  | len | int | tuple | list | sum | all | any | max2 | min2 | sorted | min1 | max1 | str
  deriving DecidableEq
inductive Ty where
  | int | bool | str | tuple
  deriving DecidableEq
mutual
inductive Tg where
  | nm (i : Nat) | tp (ts : Tgs) | up (ts : Tgs)
inductive Tgs where
  | nil | cons (t : Tg) (ts : Tgs)
end
mutual
inductive E where
  | nop
  | var (i : Nat)
  | con (d : D)
  | glob (k : Nat)
  | bin (op : BOp) (a b : E)
  | neg (a : E)
  | cmp (op : COp) (a b : E)
  | chain (o p : COp) (a b c : E)
  | isN (a : E)
  | notN (a : E)
  | and_ (a b : E)
  | and1 (a : E)
  | or_ (a b : E)
  | or1 (a : E)
  | not_ (a : E)
  | ife (c a b : E)
  | call (f : Nat) (as : Es)
  | callP (f : Nat) (as : Es)
  | callF (f : Nat) (as : Es)
  | bi (b : BI) (as : Es)
  | isi (a : E) (t : Ty)
  | listRg (a : E)
  | ix (a b : E)
  | sl (a lo hi : E)
  | tup (as : Es)
  | lst (as : Es)
  | comp (own : List (Str × Nat)) (t : Tg) (it : It) (e : E)
  | compIf (own : List (Str × Nat)) (t : Tg) (it : It) (c e : E)
  | box (a : E)
  | pop (a : E)
  | popAt (a b : E)
  | append (a b : E)
  | rev (a : E)
  | join (a b : E)
  | fmt (a : E)
  | fstr (as : Es)
inductive Es where
  | nil | cons (e : E) (es : Es)
inductive It where
  | seq (e : E) | rng1 (e : E) | rng2 (a b : E) | zip (a b : E) | zipS (a b : E)
end
mutual
inductive S where
  | asg (t : Tg) (e : E)
  | setix (o i e : E)
  | aug (i : Nat) (op : BOp) (e : E)
  | ex (e : E)
  | ife (c : E) (a b : Ss)
  | for_ (t : Tg) (it : It) (b : Ss)
  | while_ (c : E) (b : Ss)
  | ret (e : E)
  | brk | cont
inductive Ss where
  | nil | cons (s : S) (ss : Ss)
end

/-! ## operators -/
def small (i : Int) : Bool := decide (-(2 ^ 64) < i) && decide (i < 2 ^ 64)
def mulOk (i j : Int) : Bool := small i || small j || decide (i.natAbs.log2 + j.natAbs.log2 < 1000000)
def divOk (j : Int) : Bool := decide (0 < j) && decide (j.natAbs.log2 < 9000)
def addD (m : M) : D → D → Option D
  | .int i, .int j => some (.int (i + j))
  | .str x, .str y => if x.length + y.length ≤ lim then some (.str (x ++ y)) else none
  | .tup x, .tup y => if x.length + y.length ≤ lim then some (.tup (x ++ y)) else none
  | x, y => match deref m x, deref m y with
    | .lst a, .lst b => if a.length + b.length ≤ lim then some (.lst (a ++ b)) else none
    | _, _ => none
def mulD (m : M) : D → D → Option D
  | .int i, .int j => if mulOk i j then some (.int (i * j)) else none
  | x, .int k => match deref m x with
    | .lst a => if small k && decide (-(2 ^ 63) ≤ k) && decide (k < 2 ^ 63) && decide (a.length * k.toNat ≤ lim) then some (.lst (List.replicate k.toNat a).flatten) else none
    | .tup a => if decide (-1000 ≤ k) && decide (k ≤ 1000) && decide (a.length ≤ 1000) then some (.tup (List.replicate k.toNat a).flatten) else none
    | _ => none
  | _, _ => none
def subD : D → D → Option D
  | .int i, .int j => some (.int (i - j))
  | _, _ => none
def fdivD : D → D → Option D
  | .int i, .int j => if divOk j then some (.int (i / j)) else none
  | _, _ => none
def modD : D → D → Option D
  | .int i, .int j => if 0 < j then some (.int (i % j)) else none
  | _, _ => none
def powOk (i j : Int) : Bool := decide (0 ≤ j) && decide (j ≤ 1000000) && decide (i.natAbs < 2 ^ 64)
def powOk2 (i j : Int) : Bool := decide (0 ≤ j) && decide (j ≤ 100) && decide (i.natAbs.log2 < 5000)
def powD : D → D → Option D
  | .int i, .int j => if powOk i j then some (.int (i ^ j.toNat)) else if powOk2 i j then some (.int (i ^ j.toNat)) else none
  | _, _ => none
def bopD (m : M) : BOp → D → D → Option D
  | .add => addD m
  | .sub => subD
  | .mul => mulD m
  | .fdiv => fdivD
  | .mod => modD
  | .pow => powD
def eqOk (x y : D) : Bool := pure_ x && pure_ y && (toP x).canLay0 && (toP y).canLay0 && decide (min (toP x).depth (toP y).depth ≤ 64)
def eqD (m : M) : D → D → Option Bool
  | .int i, .int j => some (decide (i = j))
  | .str x, .str y => some (decide (x = y))
  | .bl x, .bl y => some (x == y)
  | x, y => if eqOk (deref m x) (deref m y) then some (PyData.eqv (toP (deref m x)) (toP (deref m y))) else none
def flatD : D → Bool
  | .non => true | .bl _ => true | .int _ => true | .str _ => true | _ => false
def eqF : D → D → Bool
  | .non, .non => true
  | .bl a, .bl b => a == b
  | .bl a, .int b => (if a then 1 else 0) == b
  | .int a, .bl b => a == (if b then 1 else 0)
  | .int a, .int b => a == b
  | .str a, .str b => a == b
  | _, _ => false
def seqOf (m : M) (d : D) : Option (List D) := match deref m d with
  | .tup xs => some xs
  | .lst xs => some xs
  | _ => none
def inD (m : M) (x y : D) : Option Bool := match seqOf m y with
  | some ys => if flatD x && ys.all flatD then some (ys.any fun z => eqF z x) else none
  | none => none
def ordD (f : Int → Int → Bool) : D → D → Option Bool
  | .int i, .int j => some (f i j)
  | _, _ => none
def cmpD (m : M) : COp → D → D → Option Bool
  | .eq => eqD m
  | .ne => fun x y => (eqD m x y).map (!·)
  | .lt => ordD fun i j => decide (i < j)
  | .le => ordD fun i j => decide (i ≤ j)
  | .gt => ordD fun i j => decide (j < i)
  | .ge => ordD fun i j => decide (j ≤ i)
  | .isin => inD m
  | .notin => fun x y => (inD m x y).map (!·)
def intsD : List D → Option (List Int)
  | [] => some []
  | .int i :: r => (intsD r).map (i :: ·)
  | _ => none
def bools : List D → Option (List Bool)
  | [] => some []
  | .bl i :: r => (bools r).map (i :: ·)
  | _ => none
def lenD (m : M) (d : D) : Option Int := match deref m d with
  | .tup xs => some xs.length
  | .lst xs => some xs.length
  | .frz xs => some xs.length
  | .str x => if x.length ≤ lim then some x.length else none
  | _ => none
def leastD : List Int → Option Int
  | [] => none
  | n :: r => some (r.foldl (fun a b => if b < a then b else a) n)
def mostD : List Int → Option Int
  | [] => none
  | n :: r => some (r.foldl (fun a b => if a < b then b else a) n)
def sortD (ns : List Int) : List Int := ns.mergeSort (fun a b => decide (a ≤ b))
def biD (m : M) : BI → List D → Option D
  | .len, [x] => (lenD m x).map .int
  | .int, [.int i] => some (.int i)
  | .int, [.bl b] => some (.int (if b then 1 else 0))
  | .tuple, [x] => (seqOf m x).map .tup
  | .list, [.str z] => if z.length ≤ lim then some (.lst (z.cps.toList.map fun c => .str ⟨#[c]⟩)) else none
  | .list, [x] => (seqOf m x).map .lst
  | .sum, [x] => match deref m x with
    | .lst xs => (intsD xs).map fun ns => .int ns.sum
    | _ => none
  | .all, [x] => match deref m x with
    | .lst xs => (bools xs).map fun bs => .bl (bs.all id)
    | _ => none
  | .any, [x] => match deref m x with
    | .lst xs => (bools xs).map fun bs => .bl (bs.any id)
    | _ => none
  | .sorted, [x] => (seqOf m x).bind fun xs => (intsD xs).map fun ns => .lst ((sortD ns).map .int)
  | .min1, [x] => match deref m x with
    | .lst xs => (intsD xs).bind fun ns => (leastD ns).map .int
    | _ => none
  | .max1, [x] => match deref m x with
    | .lst xs => (intsD xs).bind fun ns => (mostD ns).map .int
    | _ => none
  | .max2, [.int i, .int j] => some (.int (if j > i then j else i))
  | .min2, [.int i, .int j] => some (.int (if j < i then j else i))
  | .str, [.int i] => if i.natAbs.log2 < 1920 then some (.str (toString i)) else none
  | _, _ => none
def isiD : D → Ty → Option Bool
  | .non, _ => some false
  | .bl _, .int => some true
  | .bl _, .bool => some true
  | .bl _, _ => some false
  | .int _, .int => some true
  | .int _, _ => some false
  | .str _, .str => some true
  | .str _, _ => some false
  | .tup _, .tuple => some true
  | .tup _, _ => some false
  | .lst _, _ => some false
  | _, _ => none
/-- the place that an index names -/
def ixAt (n : Nat) (i : Int) : Option Nat := if 0 ≤ i then (if i < n then some i.toNat else none) else if -(n : Int) ≤ i then some (i + n).toNat else none
def atD (xs : List D) (i : Int) : Option D := (ixAt xs.length i).bind fun j => xs[j]?
def ixD (m : M) (x y : D) : Option D := match y with
  | .int i => match deref m x with
    | .tup xs => atD xs i
    | .lst xs => atD xs i
    | .frz xs => atD xs i
    | .str z => if z.length ≤ lim then ((ixAt z.cps.toList.length i).bind fun j => z.cps.toList[j]?).map fun c => .str ⟨#[c]⟩ else none
    | _ => none
  | _ => none
def sIx (n d : Nat) : Option Int → Nat
  | none => d
  | some v => if v < 0 then (v + n).toNat else min v.toNat n
def cutD (xs : List D) (lo hi : Option Int) : List D := (xs.drop (sIx xs.length 0 lo)).take (sIx xs.length xs.length hi - sIx xs.length 0 lo)
def cutT (z : Str) (lo hi : Option Int) : Str := ⟨((z.cps.toList.drop (sIx z.length 0 lo)).take (sIx z.length z.length hi - sIx z.length 0 lo)).toArray⟩
def slD (m : M) (x : D) (lo hi : Option Int) : Option D := match deref m x with
  | .tup xs => some (.tup (cutD xs lo hi))
  | .lst xs => some (.lst (cutD xs lo hi))
  | .frz xs => some (.lst (cutD xs lo hi))
  | .str z => if z.length ≤ lim then some (.str (cutT z lo hi)) else none
  | _ => none
def revT (z : Str) : Str := ⟨z.cps.toList.reverse.toArray⟩
def revD (m : M) (x : D) : Option D := match deref m x with
  | .lst xs => some (.lst xs.reverse)
  | .str z => if z.length ≤ lim then some (.str (revT z)) else none
  | _ => none
def strsD : List D → Option (List Str)
  | [] => some []
  | .str i :: r => (strsD r).map (i :: ·)
  | _ => none
def joinD (m : M) : D → D → Option D
  | .str a, y => (seqOf m y).bind fun ys => (strsD ys).bind fun ss => if (ss.map (·.length)).sum + ss.length * a.length ≤ lim then some (.str (Str.join a ss)) else none
  | _, _ => none
def txtD : D → Option D
  | .str y => if y.length ≤ lim then some (.str y) else none
  | .int i => if i.natAbs.log2 < 1920 then some (.str (toString i)) else none
  | _ => none
def gluD : Str → List D → Option Str
  | acc, [] => some acc
  | acc, .str y :: r => if (acc ++ y).length ≤ lim then gluD (acc ++ y) r else none
  | _, _ => none

/-! no reference from n on -/
mutual
def below (n : Nat) : D → Bool
  | .tup xs => belows n xs
  | .lst xs => belows n xs
  | .frz xs => belows n xs
  | .ref l => decide (l < n)
  | _ => true
def belows (n : Nat) : List D → Bool
  | [] => true
  | x :: r => below n x && belows n r
end
def belowM (n : Nat) (m : M) : Bool := m.all fun o => match o with
  | .lst xs => belows n xs
/-- a new list that a def hands out: a value from now on -/
def freshD (m : M) (q : D × M) : Option (D × M) := match q.1 with
  | .ref l => match q.2[l]? with
    | some (.lst xs) => if m.length ≤ l ∧ pures xs = true ∧ belowM m.length (q.2.take m.length) = true then some (.lst xs, q.2.take m.length) else none
    | none => none
  | _ => none
/-! ## the evaluator -/
mutual
def bindTg (m : M) : Tg → D → Env → Option Env
  | .nm i, d, env => some (env.set i (some d))
  | .tp ts, .tup ds, env => bindTgs m ts ds env
  | .tp _, _, _ => none
  | .up ts, d, env => match deref m d with
    | .lst ds => bindTgs m ts ds env
    | _ => none
def bindTgs (m : M) : Tgs → List D → Env → Option Env
  | .nil, [], env => some env
  | .cons t ts, d :: ds, env => (bindTg m t d env).bind fun e => bindTgs m ts ds e
  | _, _, _ => none
end
def wipeE (env : Env) : List Nat → Env
  | [] => env
  | v :: vs => (wipeE env vs).set v none
abbrev Fn := Nat → List D → M → Option (D × M)
def compL (t : Tg) (env : Env) (te : Env → M → Option (D × M)) : List D → M → Option (List D × M)
  | [], m => some ([], m)
  | d :: ds, m => (bindTg m t d env).bind fun e => (te e m).bind fun p => (compL t env te ds p.2).bind fun q => some (p.1 :: q.1, q.2)
def compLI (t : Tg) (env : Env) (tc te : Env → M → Option (D × M)) : List D → M → Option (List D × M)
  | [], m => some ([], m)
  | d :: ds, m => (bindTg m t d env).bind fun e => (tc e m).bind fun c => match c.1 with
    | .bl true => (te e c.2).bind fun p => (compLI t env tc te ds p.2).bind fun q => some (p.1 :: q.1, q.2)
    | .bl false => compLI t env tc te ds c.2
    | _ => none
def rangeD (lo : Int) (n : Nat) : List D := (List.range n).map fun (i : Nat) => .int (lo + (i : Int))
def rgOk (i : Int) : Bool := decide (-(2 ^ 62) ≤ i) && decide (i < 2 ^ 62)
def zipD (x y : D) : Option (List D) := match x, y with
  | .tup xs, .tup ys => some (List.zipWith (fun a b => .tup [a, b]) xs ys)
  | .lst xs, .lst ys => some (List.zipWith (fun a b => .tup [a, b]) xs ys)
  | .lst xs, .tup ys => if xs.length = ys.length then some (List.zipWith (fun a b => .tup [a, b]) xs ys) else none
  | .tup xs, .lst ys => if xs.length = ys.length then some (List.zipWith (fun a b => .tup [a, b]) xs ys) else none
  | _, _ => none
def rowD : D → Option (Bool × List D)
  | .tup xs => some (false, xs)
  | .lst xs => some (true, xs)
  | _ => none
def zipSD (x y : D) : Option (List D) := (rowD x).bind fun p => (rowD y).bind fun q => if p.2.length = q.2.length then some (List.zipWith (fun a b => .tup [a, b]) p.2 q.2) else none
def isNop : E → Bool
  | .nop => true
  | _ => false
def partO (f : Env → M → Option (D × M)) (nop : Bool) (env : Env) (m : M) : Option (Option Int × M) :=
  if nop then some (none, m) else (f env m).bind fun p => match p.1 with
    | .int i => some (some i, p.2)
    | _ => none
section
variable (F : Fn) (G : List D)
mutual
def evE : E → Env → M → Option (D × M)
  | .nop, _, _ => none
  | .var i, env, m => match env[i]? with
    | some (some d) => some (d, m)
    | _ => none
  | .con d, _, m => some (d, m)
  | .glob k, _, m => (G[k]?).map fun d => (d, m)
  | .bin op a b, env, m => (evE a env m).bind fun p => (evE b env p.2).bind fun q => (bopD q.2 op p.1 q.1).map fun d => (d, q.2)
  | .neg a, env, m => (evE a env m).bind fun p => match p.1 with
    | .int i => some (.int (-i), p.2)
    | _ => none
  | .cmp op a b, env, m => (evE a env m).bind fun p => (evE b env p.2).bind fun q => (cmpD q.2 op p.1 q.1).map fun d => (.bl d, q.2)
  | .chain o p a b c, env, m => (evE a env m).bind fun x => (evE b env x.2).bind fun y => (cmpD y.2 o x.1 y.1).bind fun k =>
      if k then (evE c env y.2).bind fun z => (cmpD z.2 p y.1 z.1).map fun d => (.bl d, z.2) else some (.bl false, y.2)
  | .isN a, env, m => (evE a env m).map fun p => (.bl (decide (p.1 = .non)), p.2)
  | .notN a, env, m => (evE a env m).map fun p => (.bl (!decide (p.1 = .non)), p.2)
  | .and_ a b, env, m => (evE a env m).bind fun p => match p.1 with
    | .bl true => evE b env p.2
    | .bl false => some (.bl false, p.2)
    | _ => none
  | .and1 a, env, m => evE a env m
  | .or_ a b, env, m => (evE a env m).bind fun p => match p.1 with
    | .bl true => some (.bl true, p.2)
    | .bl false => evE b env p.2
    | _ => none
  | .or1 a, env, m => evE a env m
  | .not_ a, env, m => (evE a env m).bind fun p => match p.1 with
    | .bl k => some (.bl (!k), p.2)
    | _ => none
  | .ife c a b, env, m => (evE c env m).bind fun p => match p.1 with
    | .bl true => evE a env p.2
    | .bl false => evE b env p.2
    | _ => none
  | .call f as, env, m => (evA as env m).bind fun p => F f p.1 p.2
  | .callP f as, env, m => (evA as env m).bind fun p => (F f p.1 p.2).bind fun q => if q.2.take p.2.length = p.2 ∧ pure_ q.1 = true then some (q.1, p.2) else none
  | .callF f as, env, m => (evA as env m).bind fun p => (F f p.1 p.2).bind fun q => freshD p.2 q
  | .bi b as, env, m => (evA as env m).bind fun p => (biD p.2 b p.1).map fun d => (d, p.2)
  | .isi a t, env, m => (evE a env m).bind fun p => (isiD p.1 t).map fun k => (.bl k, p.2)
  | .listRg a, env, m => (evE a env m).bind fun p => match p.1 with
    | .int n => if rgOk n && decide (n.toNat ≤ lim) then some (.lst (rangeD 0 n.toNat), p.2) else none
    | _ => none
  | .ix a b, env, m => (evE a env m).bind fun p => (evE b env p.2).bind fun q => (ixD q.2 p.1 q.1).map fun d => (d, q.2)
  | .sl a lo hi, env, m => (evE a env m).bind fun p => (partO (fun env m => evE lo env m) (isNop lo) env p.2).bind fun l => (partO (fun env m => evE hi env m) (isNop hi) env l.2).bind fun h => (slD h.2 p.1 l.1 h.1).map fun d => (d, h.2)
  | .tup as, env, m => (evA as env m).bind fun p => if p.1.length ≤ lim then some (.tup p.1, p.2) else none
  | .lst as, env, m => (evA as env m).bind fun p => if p.1.length ≤ lim then some (.lst p.1, p.2) else none
  | .comp own t it e, env, m => (evI it env m).bind fun p => if p.1.length ≤ lim then
      (compL t (wipeE env (own.map (·.2))) (fun env m => evE e env m) p.1 p.2).map fun q => (.lst q.1, q.2) else none
  | .compIf own t it c e, env, m => (evI it env m).bind fun p => if p.1.length ≤ lim then
      (compLI t (wipeE env (own.map (·.2))) (fun env m => evE c env m) (fun env m => evE e env m) p.1 p.2).map fun q => (.lst q.1, q.2) else none
  | .box a, env, m => (evE a env m).bind fun p => match p.1 with
    | .lst xs => some (.ref p.2.length, p.2 ++ [.lst xs])
    | _ => none
  | .pop a, env, m => (evE a env m).bind fun p => match p.1 with
    | .ref l => match p.2[l]? with
      | some (.lst xs) => match xs[xs.length - 1]? with
        | some y => some (y, p.2.set l (.lst xs.dropLast))
        | none => none
      | none => none
    | _ => none
  | .popAt a b, env, m => (evE a env m).bind fun p => (evE b env p.2).bind fun q => match p.1, q.1 with
    | .ref l, .int i => match q.2[l]? with
      | some (.lst xs) => match ixAt xs.length i with
        | some k => match xs[k]? with
          | some y => if decide (-(2 ^ 63) ≤ i) && decide (i < 2 ^ 63) then some (y, q.2.set l (.lst (xs.eraseIdx k))) else none
          | none => none
        | none => none
      | none => none
    | _, _ => none
  | .append a b, env, m => (evE a env m).bind fun p => (evE b env p.2).bind fun q => match p.1 with
    | .ref l => match q.2[l]? with
      | some (.lst xs) => if xs.length < lim then some (.non, q.2.set l (.lst (xs ++ [q.1]))) else none
      | none => none
    | _ => none
  | .rev a, env, m => (evE a env m).bind fun p => (revD p.2 p.1).map fun d => (d, p.2)
  | .join a b, env, m => (evE a env m).bind fun p => (evE b env p.2).bind fun q => (joinD q.2 p.1 q.1).map fun d => (d, q.2)
  | .fmt a, env, m => (evE a env m).bind fun p => (txtD p.1).map fun d => (d, p.2)
  | .fstr as, env, m => (evA as env m).bind fun p => (gluD Str.empty p.1).map fun d => (.str d, p.2)
def evA : Es → Env → M → Option (List D × M)
  | .nil, _, m => some ([], m)
  | .cons e es, env, m => (evE e env m).bind fun p => (evA es env p.2).bind fun q => some (p.1 :: q.1, q.2)
def evI : It → Env → M → Option (List D × M)
  | .seq e, env, m => (evE e env m).bind fun p => match p.1 with
    | .tup xs => some (xs, p.2)
    | .lst xs => some (xs, p.2)
    | _ => none
  | .rng1 e, env, m => (evE e env m).bind fun p => match p.1 with
    | .int n => if rgOk n then some (rangeD 0 n.toNat, p.2) else none
    | _ => none
  | .rng2 a b, env, m => (evE a env m).bind fun p => (evE b env p.2).bind fun q => match p.1, q.1 with
    | .int i, .int j => if rgOk i && rgOk j then some (rangeD i (j - i).toNat, q.2) else none
    | _, _ => none
  | .zip a b, env, m => (evE a env m).bind fun p => (evE b env p.2).bind fun q => (zipD p.1 q.1).map fun ds => (ds, q.2)
  | .zipS a b, env, m => (evE a env m).bind fun p => (evE b env p.2).bind fun q => (zipSD p.1 q.1).map fun ds => (ds, q.2)
end
end
inductive Fl where
  | nx | rt (d : D) | bk | ct
abbrev R := Option (Fl × Env × M)
def forL (t : Tg) (tb : Env → M → R) : List D → Env → M → R
  | [], env, m => some (.nx, env, m)
  | d :: ds, env, m => (bindTg m t d env).bind fun e => (tb e m).bind fun r => match r.1 with
    | .nx => forL t tb ds r.2.1 r.2.2
    | .ct => forL t tb ds r.2.1 r.2.2
    | .bk => some (.nx, r.2.1, r.2.2)
    | .rt d => some (.rt d, r.2.1, r.2.2)
def whileL (tc : Env → M → Option (D × M)) (tb : Env → M → R) : Nat → Env → M → R
  | 0, _, _ => none
  | n + 1, env, m => (tc env m).bind fun c => match c.1 with
    | .bl true => (tb env c.2).bind fun r => match r.1 with
      | .nx => whileL tc tb n r.2.1 r.2.2
      | .ct => whileL tc tb n r.2.1 r.2.2
      | .bk => some (.nx, r.2.1, r.2.2)
      | .rt d => some (.rt d, r.2.1, r.2.2)
    | .bl false => some (.nx, env, c.2)
    | _ => none
/-- how many turns a while may take -/
def turns : Nat := 1000000
section
variable (F : Fn) (G : List D)
mutual
def evS : S → Env → M → R
  | .asg t e, env, m => (evE F G e env m).bind fun p => (bindTg p.2 t p.1 env).map fun e => (.nx, e, p.2)
  | .setix o i e, env, m => (evE F G e env m).bind fun p => (evE F G o env p.2).bind fun q => (evE F G i env q.2).bind fun r => match q.1, r.1 with
    | .ref l, .int k => match r.2[l]? with
      | some (.lst xs) => match ixAt xs.length k with
        | some j => some (.nx, env, r.2.set l (.lst (xs.set j p.1)))
        | none => none
      | none => none
    | _, _ => none
  | .aug i op e, env, m => match env[i]? with
    | some (some (.int a)) => (evE F G e env m).bind fun p => match p.1 with
      | .int b => match op with
        | .add => some (.nx, env.set i (some (.int (a + b))), p.2)
        | .sub => some (.nx, env.set i (some (.int (a - b))), p.2)
        | _ => none
      | _ => none
    | _ => none
  | .ex e, env, m => (evE F G e env m).map fun p => (.nx, env, p.2)
  | .ife c a b, env, m => (evE F G c env m).bind fun p => match p.1 with
    | .bl true => evB a env p.2
    | .bl false => evB b env p.2
    | _ => none
  | .for_ t it b, env, m => (evI F G it env m).bind fun p => forL t (fun env m => evB b env m) p.1 env p.2
  | .while_ c b, env, m => whileL (fun env m => evE F G c env m) (fun env m => evB b env m) turns env m
  | .ret e, env, m => (evE F G e env m).map fun p => (.rt p.1, env, p.2)
  | .brk, env, m => some (.bk, env, m)
  | .cont, env, m => some (.ct, env, m)
def evB : Ss → Env → M → R
  | .nil, env, m => some (.nx, env, m)
  | .cons s ss, env, m => (evS s env m).bind fun r => match r.1 with
    | .nx => evB ss r.2.1 r.2.2
    | _ => some r
end
end
structure FnD where
  nm : Str
  ps : List Str
  ns : List Str
  body : Ss
def startE (n : Nat) (ds : List D) : Env := ds.map some ++ List.replicate (n - ds.length) none
def runBody (F : Fn) (G : List D) (fd : FnD) (ds : List D) (m : M) : Option (D × M) :=
  if ds.length = fd.ps.length then (evB F G fd.body (startE fd.ns.length ds) m).bind fun r => match r.1 with
    | .rt d => some (d, r.2.2)
    | .nx => some (.non, r.2.2)
    | _ => none
  else none
def run (T : List FnD) (G : List D) : Nat → Fn
  | 0, _, _, _ => none
  | n + 1, f, ds, m => match T[f]? with
    | some fd => runBody (run T G n) G fd ds m
    | none => none
end Pv

namespace Pv
open PySem L2

/-! ## how values and heaps stand for data -/
/-- a list that nobody changes: the script -/
def FrzL (K : PySem.W.Frag) (H : Hp) (a : Addr) (xs : List V) : Prop := (∃ o, H a = some (.frz o (.lst xs))) ∨
  ∃ (o : Obj) (its : Array Value) (n : Nat), K.lookup a = some o ∧ o.cls = .type "list" ∧ o.dict = none ∧ o.data = .seq its n ∧ its.size ≤ sizeLine ∧ Vals xs its.toList
mutual
inductive RepV (K : PySem.W.Frag) (Z : Addr → Prop) (ph : List Addr) (H : Hp) : V → D → Prop
  | non : RepV K Z ph H .non .non
  | bl (b : Bool) : RepV K Z ph H (.bl b) (.bl b)
  | int (i : Int) : RepV K Z ph H (.int i) (.int i)
  | str (x : Str) : RepV K Z ph H (.str x) (.str x)
  | tup {a : Addr} {vs : List V} {ds : List D} (h : SqT K H a vs) (r : RepVs K Z ph H vs ds) : RepV K Z ph H (.ref a) (.tup ds)
  | lst {a : Addr} {vs : List V} {ds : List D} (h : H a = some (.lst vs)) (n : a ∉ ph) (z : ¬ Z a) (r : RepVs K Z ph H vs ds) : RepV K Z ph H (.ref a) (.lst ds)
  | frz {a : Addr} {vs : List V} {ds : List D} (h : FrzL K H a vs) (r : RepVs K Z ph H vs ds) : RepV K Z ph H (.ref a) (.frz ds)
  | ref {a : Addr} {l : Nat} (h : ph[l]? = some a) : RepV K Z ph H (.ref a) (.ref l)
inductive RepVs (K : PySem.W.Frag) (Z : Addr → Prop) (ph : List Addr) (H : Hp) : List V → List D → Prop
  | nil : RepVs K Z ph H [] []
  | cons {v : V} {d : D} {vs : List V} {ds : List D} (h : RepV K Z ph H v d) (r : RepVs K Z ph H vs ds) : RepVs K Z ph H (v :: vs) (d :: ds)
end

/-- what a run leaves of what stood -/
structure Sx (ph : List Addr) (H : Hp) (ph' : List Addr) (H' : Hp) : Prop where
  ext : ∃ more, ph' = ph ++ more
  new : ∀ a ∈ ph', a ∈ ph ∨ H a = none
  fr : ∀ a o, H a = some o → a ∉ ph → H' a = some o
  ft : ∀ a o, H a = some o → (∀ vs, o ≠ HO.lst vs) → H' a = some o
  old : ∀ a o, H a = some o → ∃ o', H' a = some o'
structure Wd (K : PySem.W.Frag) (Z : Addr → Prop) (ph : List Addr) (m : M) (H : Hp) : Prop where
  len : ph.length = m.length
  nd : ph.Nodup
  obj : ∀ (l : Nat) (xs : List D), m[l]? = some (MO.lst xs) → ∃ a vs, ph[l]? = some a ∧ H a = some (.lst vs) ∧ RepVs K Z ph H vs xs
  zin : ∀ a, Z a → ∃ o, H a = some o

section
variable {K : PySem.W.Frag} {Z Z' : Addr → Prop} {ph ph' ph1 ph2 : List Addr} {H H' H1 H2 : Hp} {m m' : M} {v : V} {d : D} {vs : List V} {ds : List D} {σ : L2.St} {env : Env}

theorem Sx.refl : Sx ph H ph H := ⟨⟨[], by simp⟩, fun _ h => .inl h, fun _ _ h _ => h, fun _ _ h _ => h, fun _ o h => ⟨o, h⟩⟩
theorem Sx.trans (s : Sx ph H ph1 H1) (t : Sx ph1 H1 ph2 H2) : Sx ph H ph2 H2 := by
  refine ⟨?_, fun a ha => ?_, fun a o h n => ?_, fun a o h n => t.ft a o (s.ft a o h n) n, fun a o h => ?_⟩
  · obtain ⟨x, e1⟩ := s.ext
    obtain ⟨y, e2⟩ := t.ext
    exact ⟨x ++ y, by rw [e2, e1, List.append_assoc]⟩
  · rcases t.new a ha with h | h
    · exact s.new a h
    · right
      cases q : H a with
      | none => rfl
      | some o =>
        obtain ⟨o', e⟩ := s.old a o q
        rw [e] at h; cases h
  · refine t.fr a o (s.fr a o h n) fun h1 => ?_
    rcases s.new a h1 with z | z
    · exact n z
    · rw [z] at h; cases h
  · obtain ⟨o', e⟩ := s.old a o h
    exact t.old a o' e
theorem Sx.upd {p : Addr} {o : HO} (h : H p = none) : Sx ph H ph (upd H p o) := by
  have k : ∀ a u, H a = some u → L2.upd H p o a = some u := fun a u e => by rw [upd_ne (ne_of_none e h)]; exact e
  exact ⟨⟨[], by simp⟩, fun _ h => .inl h, fun a u e _ => k a u e, fun a u e _ => k a u e, fun a u e => ⟨u, k a u e⟩⟩
theorem Sx.free (s : Sx ph H ph' H') {p : Addr} (h : H' p = none) : H p = none := by
  cases q : H p with
  | none => rfl
  | some o =>
    obtain ⟨o', e⟩ := s.old p o q
    rw [e] at h; cases h
theorem Sx.mem (s : Sx ph H ph' H') {a : Addr} (h : a ∈ ph) : a ∈ ph' := by
  obtain ⟨x, e⟩ := s.ext
  rw [e]; exact List.mem_append_left _ h
theorem Sx.sqT {a : Addr} (s : Sx ph H ph' H') (h : SqT K H a vs) : SqT K H' a vs := by
  rcases h with (h | ⟨o, h⟩) | h
  · exact .inl (.inl (s.ft a _ h fun _ e => by cases e))
  · exact .inl (.inr ⟨o, s.ft a _ h fun _ e => by cases e⟩)
  · exact .inr h
theorem FrzL.sqL {a : Addr} (h : FrzL K H a vs) : SqL K H a vs := by
  rcases h with ⟨o, h⟩ | h
  · exact .inl (.inr ⟨o, h⟩)
  · exact .inr h
theorem Sx.frzL {a : Addr} (s : Sx ph H ph' H') (h : FrzL K H a vs) : FrzL K H' a vs := by
  rcases h with ⟨o, h⟩ | h
  · exact .inl ⟨o, s.ft a _ h fun _ e => by cases e⟩
  · exact .inr h
theorem Sx.notin {a : Addr} {o : HO} (s : Sx ph H ph' H') (h : H a = some o) (n : a ∉ ph) : a ∉ ph' := fun hn => by
  rcases s.new a hn with z | z
  · exact n z
  · rw [h] at z; cases z
mutual
theorem RepV.mono (s : Sx ph H ph' H') : ∀ {v d}, RepV K Z ph H v d → RepV K Z ph' H' v d
  | _, _, .non => .non
  | _, _, .bl b => .bl b
  | _, _, .int i => .int i
  | _, _, .str x => .str x
  | _, _, .tup h r => .tup (s.sqT h) (RepVs.mono s r)
  | _, _, .lst h n z r => .lst (s.fr _ _ h n) (s.notin h n) z (RepVs.mono s r)
  | _, _, .frz h r => .frz (s.frzL h) (RepVs.mono s r)
  | _, _, .ref h => .ref (by
      obtain ⟨x, e⟩ := s.ext
      rw [e, List.getElem?_append_left (List.getElem?_eq_some_iff.mp h).1]
      exact h)
theorem RepVs.mono (s : Sx ph H ph' H') : ∀ {vs ds}, RepVs K Z ph H vs ds → RepVs K Z ph' H' vs ds
  | _, _, .nil => .nil
  | _, _, .cons h r => .cons (RepV.mono s h) (RepVs.mono s r)
end
/-- a place more that nobody may hold, one fewer -/
def Zp (Z : Addr → Prop) (p : Addr) : Addr → Prop := fun a => a = p ∨ Z a
mutual
theorem RepV.zp {p : Addr} (hp : H p = none) : ∀ {v d}, RepV K Z ph H v d → RepV K (Zp Z p) ph H v d
  | _, _, .non => .non
  | _, _, .bl b => .bl b
  | _, _, .int i => .int i
  | _, _, .str x => .str x
  | _, _, .tup h r => .tup h (RepVs.zp hp r)
  | _, _, .lst h n z r => .lst h n (fun q => q.elim (ne_of_none h hp) z) (RepVs.zp hp r)
  | _, _, .frz h r => .frz h (RepVs.zp hp r)
  | _, _, .ref h => .ref h
theorem RepVs.zp {p : Addr} (hp : H p = none) : ∀ {vs ds}, RepVs K Z ph H vs ds → RepVs K (Zp Z p) ph H vs ds
  | _, _, .nil => .nil
  | _, _, .cons h r => .cons (RepV.zp hp h) (RepVs.zp hp r)
end
mutual
theorem RepV.unz {p : Addr} : ∀ {v d}, RepV K (Zp Z p) ph H v d → RepV K Z ph H v d
  | _, _, .non => .non
  | _, _, .bl b => .bl b
  | _, _, .int i => .int i
  | _, _, .str x => .str x
  | _, _, .tup h r => .tup h (RepVs.unz r)
  | _, _, .lst h n z r => .lst h n (fun q => z (.inr q)) (RepVs.unz r)
  | _, _, .frz h r => .frz h (RepVs.unz r)
  | _, _, .ref h => .ref h
theorem RepVs.unz {p : Addr} : ∀ {vs ds}, RepVs K (Zp Z p) ph H vs ds → RepVs K Z ph H vs ds
  | _, _, .nil => .nil
  | _, _, .cons h r => .cons (RepV.unz h) (RepVs.unz r)
end
mutual
theorem RepV.box {p : Addr} : ∀ {v d}, RepV K (Zp Z p) ph H v d → RepV K Z (ph ++ [p]) H v d
  | _, _, .non => .non
  | _, _, .bl b => .bl b
  | _, _, .int i => .int i
  | _, _, .str x => .str x
  | _, _, .tup h r => .tup h (RepVs.box r)
  | _, _, .lst h n z r => .lst h (fun q => (List.mem_append.mp q).elim n fun q => z (.inl (by simpa using q))) (fun q => z (.inr q)) (RepVs.box r)
  | _, _, .frz h r => .frz h (RepVs.box r)
  | _, _, .ref h => .ref (by rw [List.getElem?_append_left (List.getElem?_eq_some_iff.mp h).1]; exact h)
theorem RepVs.box {p : Addr} : ∀ {vs ds}, RepVs K (Zp Z p) ph H vs ds → RepVs K Z (ph ++ [p]) H vs ds
  | _, _, .nil => .nil
  | _, _, .cons h r => .cons (RepV.box h) (RepVs.box r)
end
mutual
theorem below_pure (n : Nat) : ∀ {d : D}, pure_ d = true → below n d = true
  | .non, _ => rfl
  | .bl _, _ => rfl
  | .int _, _ => rfl
  | .str _, _ => rfl
  | .tup xs, h => belows_pure n (ds := xs) (by simpa [pure_] using h)
  | .lst xs, h => belows_pure n (ds := xs) (by simpa [pure_] using h)
  | .frz _, h => by simp [pure_] at h
  | .ref _, h => by simp [pure_] at h
theorem belows_pure (n : Nat) : ∀ {ds : List D}, pures ds = true → belows n ds = true
  | [], _ => rfl
  | x :: r, h => by
    have h : pure_ x = true ∧ pures r = true := by simpa [pures] using h
    simp only [belows, below_pure n h.1, belows_pure n h.2, Bool.and_self]
end
mutual
theorem RepV.blw : ∀ {v d}, RepV K Z ph H v d → Pv.below ph.length d = true
  | _, _, .non => rfl
  | _, _, .bl b => rfl
  | _, _, .int i => rfl
  | _, _, .str x => rfl
  | _, _, .tup h r => RepVs.blw r
  | _, _, .lst h n z r => RepVs.blw r
  | _, _, .frz h r => RepVs.blw r
  | _, _, .ref h => decide_eq_true (List.getElem?_eq_some_iff.mp h).1
theorem RepVs.blw : ∀ {vs ds}, RepVs K Z ph H vs ds → belows ph.length ds = true
  | _, _, .nil => rfl
  | _, _, .cons h r => by simp only [belows, RepV.blw h, RepVs.blw r, Bool.and_self]
end
mutual
theorem RepV.cut {more : List Addr} : ∀ {v d}, Pv.below ph.length d = true → RepV K Z (ph ++ more) H v d → RepV K Z ph H v d
  | _, _, _, .non => .non
  | _, _, _, .bl b => .bl b
  | _, _, _, .int i => .int i
  | _, _, _, .str x => .str x
  | _, _, q, .tup h r => .tup h (RepVs.cut q r)
  | _, _, q, .lst h n z r => .lst h (fun x => n (List.mem_append_left _ x)) z (RepVs.cut q r)
  | _, _, q, .frz h r => .frz h (RepVs.cut q r)
  | _, _, q, .ref h => .ref (by rw [List.getElem?_append_left (of_decide_eq_true q)] at h; exact h)
theorem RepVs.cut {more : List Addr} : ∀ {vs ds}, belows ph.length ds = true → RepVs K Z (ph ++ more) H vs ds → RepVs K Z ph H vs ds
  | _, _, _, .nil => .nil
  | _, _, q, .cons h r => by
    simp only [belows, Bool.and_eq_true] at q
    exact .cons (RepV.cut q.1 h) (RepVs.cut q.2 r)
end

/-! ### lists of values -/
theorem RepVs.len (r : RepVs K Z ph H vs ds) : vs.length = ds.length := by
  induction ds generalizing vs with
  | nil => cases r; rfl
  | cons d ds ih => cases r with | cons h r => simp [ih r]
theorem RepVs.get (r : RepVs K Z ph H vs ds) {i : Nat} {d : D} (h : ds[i]? = some d) : ∃ v, vs[i]? = some v ∧ RepV K Z ph H v d := by
  induction ds generalizing vs i with
  | nil => simp at h
  | cons d0 ds ih =>
    cases r with
    | cons h0 r =>
      cases i with
      | zero => simp at h; subst h; exact ⟨_, rfl, h0⟩
      | succ i => simp at h; simpa using ih r h
theorem RepVs.get' (r : RepVs K Z ph H vs ds) {i : Nat} {v : V} (h : vs[i]? = some v) : ∃ d, ds[i]? = some d ∧ RepV K Z ph H v d := by
  induction ds generalizing vs i with
  | nil => cases r; simp at h
  | cons d0 ds ih =>
    cases r with
    | cons h0 r =>
      cases i with
      | zero => simp at h; subst h; exact ⟨_, rfl, h0⟩
      | succ i => simp at h; simpa using ih r h
theorem RepVs.append {ws : List V} {es : List D} (r : RepVs K Z ph H vs ds) (q : RepVs K Z ph H ws es) : RepVs K Z ph H (vs ++ ws) (ds ++ es) := by
  induction ds generalizing vs with
  | nil => cases r; exact q
  | cons d ds ih => cases r with | cons h r => exact .cons h (ih r)
theorem RepVs.take (r : RepVs K Z ph H vs ds) (n : Nat) : RepVs K Z ph H (vs.take n) (ds.take n) := by
  induction ds generalizing vs n with
  | nil => cases r; simp; exact .nil
  | cons d ds ih =>
    cases r with
    | cons h r =>
      cases n with
      | zero => exact .nil
      | succ n => exact .cons h (ih r n)
theorem RepVs.drop (r : RepVs K Z ph H vs ds) (n : Nat) : RepVs K Z ph H (vs.drop n) (ds.drop n) := by
  induction ds generalizing vs n with
  | nil => cases r; simp; exact .nil
  | cons d ds ih =>
    cases r with
    | cons h r =>
      cases n with
      | zero => exact .cons h r
      | succ n => exact ih r n
theorem RepVs.set (r : RepVs K Z ph H vs ds) (q : RepV K Z ph H v d) (n : Nat) : RepVs K Z ph H (vs.set n v) (ds.set n d) := by
  induction ds generalizing vs n with
  | nil => cases r; exact .nil
  | cons d ds ih =>
    cases r with
    | cons h r =>
      cases n with
      | zero => exact .cons q r
      | succ n => exact .cons h (ih r n)
theorem RepVs.erase (r : RepVs K Z ph H vs ds) (n : Nat) : RepVs K Z ph H (vs.eraseIdx n) (ds.eraseIdx n) := by
  induction ds generalizing vs n with
  | nil => cases r; exact .nil
  | cons d ds ih =>
    cases r with
    | cons h r =>
      cases n with
      | zero => exact r
      | succ n => exact .cons h (ih r n)
theorem RepVs.dropLast (r : RepVs K Z ph H vs ds) : RepVs K Z ph H vs.dropLast ds.dropLast := by
  have e := r.len
  rw [List.dropLast_eq_take, List.dropLast_eq_take, e]
  exact r.take _
theorem RepVs.rep (r : RepVs K Z ph H vs ds) (k : Nat) : RepVs K Z ph H (List.replicate k vs).flatten (List.replicate k ds).flatten := by
  induction k with
  | zero => exact .nil
  | succ k ih => rw [List.replicate_succ, List.replicate_succ, List.flatten_cons, List.flatten_cons]; exact r.append ih

/-! ### the mutable things -/
theorem Wd.mono (w : Wd K Z ph m H) (s : Sx ph H ph H') (hz : ∀ (l : Nat) (xs : List D) (a : Addr), m[l]? = some (MO.lst xs) → ph[l]? = some a → ∀ vs, H a = some (.lst vs) → H' a = some (.lst vs)) : Wd K Z ph m H' := by
  refine ⟨w.len, w.nd, fun l xs h => ?_, fun a h => ?_⟩
  · obtain ⟨a, vs, e1, e2, r⟩ := w.obj l xs h
    exact ⟨a, vs, e1, hz l xs a h e1 vs e2, r.mono s⟩
  · obtain ⟨o, e⟩ := w.zin a h
    exact s.old a o e
/-- a new thing is laid -/
theorem Wd.new (w : Wd K Z ph m H) {p : Addr} {o : HO} (h : H p = none) : Wd K Z ph m (upd H p o) :=
  w.mono (Sx.upd h) fun _ _ _ _ _ vs e => by rw [upd_ne (ne_of_none e h)]; exact e
theorem Wd.at (w : Wd K Z ph m H) {l : Nat} {xs : List D} (h : m[l]? = some (MO.lst xs)) {a : Addr} (ha : ph[l]? = some a) : ∃ vs, H a = some (.lst vs) ∧ RepVs K Z ph H vs xs := by
  obtain ⟨b, vs, e1, e2, r⟩ := w.obj l xs h
  rw [ha] at e1; cases e1
  exact ⟨vs, e2, r⟩
theorem Wd.lst (w : Wd K Z ph m H) {a : Addr} (h : a ∈ ph) : ∃ vs, H a = some (.lst vs) := by
  obtain ⟨l, hl, e⟩ := List.getElem_of_mem h
  have hm : l < m.length := by rw [← w.len]; exact hl
  cases q : m[l] with
  | lst xs =>
    obtain ⟨vs, h1, _⟩ := w.at (l := l) (xs := xs) (by rw [List.getElem?_eq_getElem hm, q]) (List.getElem?_eq_some_iff.mpr ⟨hl, e⟩)
    exact ⟨vs, h1⟩
/-- a mutable thing is changed -/
theorem Sx.write (w : Wd K Z ph m H) {l : Nat} {a : Addr} {us : List V} (ha : ph[l]? = some a) : Sx ph H ph (L2.upd H a (.lst us)) := by
  have hm : a ∈ ph := List.mem_of_getElem? ha
  obtain ⟨vs, hv⟩ := w.lst hm
  refine ⟨⟨[], by simp⟩, fun _ h => .inl h, fun b o h n => ?_, fun b o h n => ?_, fun b o h => ?_⟩
  · rw [upd_ne (fun (e : b = a) => n (by rw [e]; exact hm))]; exact h
  · rw [upd_ne (fun (e : b = a) => by subst e; rw [hv] at h; cases h; exact n _ rfl)]; exact h
  · by_cases e : b = a
    · subst e; exact ⟨_, upd_same⟩
    · exact ⟨o, by rw [upd_ne e]; exact h⟩
theorem Wd.write (w : Wd K Z ph m H) {l : Nat} {a : Addr} {us : List V} {es : List D} (ha : ph[l]? = some a) (r : RepVs K Z ph H us es) : Wd K Z ph (m.set l (.lst es)) (upd H a (.lst us)) := by
  have s := Sx.write (us := us) w ha
  have hl : l < ph.length := (List.getElem?_eq_some_iff.mp ha).1
  refine ⟨by rw [List.length_set]; exact w.len, w.nd, fun j xs h => ?_, fun b h => ?_⟩
  · by_cases e : l = j
    · subst e
      rw [List.getElem?_set_self (by rw [← w.len]; exact hl)] at h
      cases h
      exact ⟨a, us, ha, upd_same, r.mono s⟩
    · rw [List.getElem?_set_ne e] at h
      obtain ⟨b, vs, e1, e2, r⟩ := w.obj j xs h
      refine ⟨b, vs, e1, ?_, r.mono s⟩
      rw [upd_ne]; exact e2
      rintro rfl
      exact e (nodup_ix' w.nd ha e1)
  · obtain ⟨o, q⟩ := w.zin b h
    exact s.old b o q
where
  nodup_ix' {N : List Addr} (hN : N.Nodup) {i j : Nat} {x : Addr} (a : N[i]? = some x) (b : N[j]? = some x) : i = j := by
    obtain ⟨h1, e1⟩ := List.getElem?_eq_some_iff.mp a
    obtain ⟨h2, e2⟩ := List.getElem?_eq_some_iff.mp b
    exact (List.getElem_inj hN).mp (e1.trans e2.symm)
theorem Wd.unz {p : Addr} (w : Wd K (Zp Z p) ph m H) : Wd K Z ph m H := by
  refine ⟨w.len, w.nd, fun l xs h => ?_, fun a h => w.zin a (.inr h)⟩
  obtain ⟨a, vs, e1, e2, r⟩ := w.obj l xs h
  exact ⟨a, vs, e1, e2, r.unz⟩
theorem Wd.box {p : Addr} (w : Wd K (Zp Z p) ph m H) (h : H p = some (.lst vs)) (n : p ∉ ph) (r : RepVs K (Zp Z p) ph H vs ds) : Wd K Z (ph ++ [p]) (m ++ [.lst ds]) H := by
  refine ⟨by simp [w.len], ?_, fun l xs h' => ?_, fun a h => w.zin a (.inr h)⟩
  · rw [List.nodup_append]
    refine ⟨w.nd, by simp, fun a ha b hb e => n ?_⟩
    have q : b = p := by simpa using hb
    rw [← q, ← e]
    exact ha
  · by_cases q : l < m.length
    · rw [List.getElem?_append_left q] at h'
      obtain ⟨a, vs, e1, e2, r⟩ := w.obj l xs h'
      exact ⟨a, vs, by rw [List.getElem?_append_left (by rw [w.len]; exact q)]; exact e1, e2, r.box⟩
    · have e : l = m.length := by
        have := (List.getElem?_eq_some_iff.mp h').1
        rw [List.length_append, List.length_singleton] at this
        omega
      subst e
      have e : ds = xs := by simpa using h'
      subst e
      exact ⟨p, vs, by rw [← w.len]; simp, h, r.box⟩
/-- fewer mutable things -/
theorem Wd.cut {more : List Addr} {H0 : Hp} {m' : M} (w0 : Wd K Z ph m H0) (w : Wd K Z (ph ++ more) m' H) (e : m'.take m.length = m) : Wd K Z ph m H := by
  have hnd := (List.nodup_append.mp w.nd).1
  refine ⟨w0.len, hnd, fun l xs h => ?_, fun a h => w.zin a h⟩
  have hl : l < m.length := (List.getElem?_eq_some_iff.mp h).1
  have h' : m'[l]? = some (MO.lst xs) := by
    rw [← e, List.getElem?_take_of_lt hl] at h
    exact h
  obtain ⟨a, vs, e1, e2, r⟩ := w.obj l xs h'
  obtain ⟨b, us, f1, f2, q⟩ := w0.obj l xs h
  exact ⟨a, vs, by rw [List.getElem?_append_left (by rw [w0.len]; exact hl)] at e1; exact e1, e2, r.cut q.blw⟩
theorem Sx.cut {more : List Addr} (s : Sx ph H (ph ++ more) H') : Sx ph H ph H' := ⟨⟨[], by simp⟩, fun _ h => .inl h, s.fr, s.ft, s.old⟩
end

/-! ## frames -/
structure RepE (K : PySem.W.Frag) (Z : Addr → Prop) (ph : List Addr) (H : Hp) (σ : L2.St) (env : Env) : Prop where
  len : σ.length = env.length
  at_ : ∀ (i : Nat) (d : D), env[i]? = some (some d) → ∃ v, σ[i]? = some (some v) ∧ RepV K Z ph H v d
section
variable {K : PySem.W.Frag} {Z Z' : Addr → Prop} {ph ph' ph1 ph2 : List Addr} {H H' H1 H2 : Hp} {m m' : M} {v : V} {d : D} {vs : List V} {ds : List D} {σ : L2.St} {env : Env}
theorem RepE.mono (r : RepE K Z ph H σ env) (s : Sx ph H ph' H') : RepE K Z ph' H' σ env := ⟨r.len, fun i d h => let ⟨v, e, q⟩ := r.at_ i d h; ⟨v, e, q.mono s⟩⟩
theorem RepE.zp {p : Addr} (r : RepE K Z ph H σ env) (hp : H p = none) : RepE K (Zp Z p) ph H σ env := ⟨r.len, fun i d h => let ⟨v, e, q⟩ := r.at_ i d h; ⟨v, e, q.zp hp⟩⟩
theorem RepE.unz {p : Addr} (r : RepE K (Zp Z p) ph H σ env) : RepE K Z ph H σ env := ⟨r.len, fun i d h => let ⟨v, e, q⟩ := r.at_ i d h; ⟨v, e, q.unz⟩⟩
theorem RepE.set (r : RepE K Z ph H σ env) (q : RepV K Z ph H v d) (i : Nat) : RepE K Z ph H (σ.set i (some v)) (env.set i (some d)) := by
  refine ⟨by simp [r.len], fun j d' h => ?_⟩
  by_cases e : i = j
  · subst e
    by_cases hi : i < env.length
    · rw [List.getElem?_set_self hi] at h
      cases h
      exact ⟨v, by rw [List.getElem?_set_self (by rw [r.len]; exact hi)], q⟩
    · rw [List.getElem?_eq_none (by simpa using hi)] at h; cases h
  · rw [List.getElem?_set_ne e] at h
    rw [List.getElem?_set_ne e]
    exact r.at_ j d' h
theorem RepE.wipe (r : RepE K Z ph H σ env) : ∀ l : List Nat, RepE K Z ph H (wipe σ l) (wipeE env l)
  | [] => r
  | i :: l => by
    have r := r.wipe l
    unfold L2.wipe wipeE
    refine ⟨by simp [r.len], fun j d' h => ?_⟩
    by_cases e : i = j
    · subst e
      by_cases hi : i < (wipeE env l).length
      · rw [List.getElem?_set_self hi] at h; cases h
      · rw [List.getElem?_eq_none (by simpa using hi)] at h; cases h
    · rw [List.getElem?_set_ne e] at h
      rw [List.getElem?_set_ne e]
      exact r.at_ j d' h
end
end Pv

/-! ## rules that the kit's hand layer lacks: tuple * k for k < 2, sorted of a tuple -/
namespace Pv
open PySem PySem.Spec PyProof.Rows L2
section
theorem tm_same (l : Addr) (xs : Array Value) (n : Nat) (dd : Option Addr) (sl : Array (Option Value)) (x : Int) (u : Tok) (c0 : (decide (x < -(2 ^ 63)) || decide (x ≥ 2 ^ 63)) = false) (c1 : (xs.isEmpty || x == 1) = true) :
    Meets (Builtin.«tuple.__mul__» ⟨[.ref l, .int x u], []⟩) (fun _ R s => s.heap.get? l = some { cls := .type "tuple", dict := dd, data := .seq xs n, slots := sl } ∧ R (.ok (.ret (.ref l))) s) :=
  .of_wp fun prog w A R s h => by
    obtain ⟨hp, g, d, tk, os⟩ := s
    obtain ⟨hl, h⟩ := h
    have f1 := AutoSeq1.idx_int
    wp_walk using wpAny_loadPart' hl
    refine wpAny_ite_false (decide_eq_false (by rw [c0]; exact Bool.false_ne_true)) ?_
    wp_walk using wpAny_loadPart' hl
    exact ⟨_, rfl, h⟩
theorem tm_none (l : Addr) (xs : Array Value) (n : Nat) (dd : Option Addr) (sl : Array (Option Value)) (x : Int) (u : Tok) (c0 : (decide (x < -(2 ^ 63)) || decide (x ≥ 2 ^ 63)) = false) (c1 : (xs.isEmpty || x == 1) = false) (c2 : (decide (x ≤ 0) || xs.isEmpty) = true) :
    Meets (Builtin.«tuple.__mul__» ⟨[.ref l, .int x u], []⟩) (fun _ R s => s.heap.get? l = some { cls := .type "tuple", dict := dd, data := .seq xs n, slots := sl } ∧
      R (.ok (.ret (.ref s.heap.objs.size))) { s with heap := s.heap.push { cls := .type "tuple", data := .seq #[] } }) :=
  .of_wp fun prog w A R s h => by
    obtain ⟨hp, g, d, tk, os⟩ := s
    obtain ⟨hl, h⟩ := h
    have f1 := AutoSeq1.idx_int
    wp_walk using wpAny_loadPart' hl
    refine wpAny_ite_false (decide_eq_false (by rw [c0]; exact Bool.false_ne_true)) ?_
    wp_walk using wpAny_loadPart' hl
    exact ⟨_, rfl, h⟩
variable {X : Cx}
def rRepS (K : PySem.W.Frag) : R2 := fun x y H Q => ∃ l k xs, x = .ref l ∧ y = .int k ∧ SqT K H l xs ∧ -(2 ^ 63) ≤ k ∧ k < 2 ^ 63 ∧ (xs = [] ∨ k = 1) ∧ Q (.ref l) H
def rRepZ (K : PySem.W.Frag) : R2 := fun x y H Q => ∃ l k xs, x = .ref l ∧ y = .int k ∧ SqT K H l xs ∧ -(2 ^ 63) ≤ k ∧ k ≤ 0 ∧ xs ≠ [] ∧ ∀ p, H p = none → Q (.ref p) (upd H p (.tup []))
theorem op_repS : OpR X (binaryOp .Mult) (rRepS X.K) := by
  intro pins s σ H x y v u Q I rx ry h
  obtain ⟨l, k, xs, rfl, rfl, hT, h1, h2, hc, q⟩ := h
  cases rx
  obtain ⟨t, rfl⟩ := ry
  obtain ⟨its, r, ⟨⟨cls, dd, data, sl⟩, ho, hcl, n, hd⟩, hs⟩ := I.tuple hT
  simp only at hcl hd
  subst hcl hd
  have c0 : (decide (k < -(2 ^ 63)) || decide (k ≥ 2 ^ 63)) = false := by
    rw [decide_eq_false (by omega), decide_eq_false (by omega)] <;> rfl
  have c1 : (its.toArray.isEmpty || k == 1) = true := by
    rcases hc with rfl | rfl
    · cases r; rfl
    · simp
  exact wpAny_binaryOp_repeat_ref (T := "tuple") (U := "int") (by decide) ⟨_, ho, rfl⟩ (fun s' => typeIs_int s' k t) noFill_tuple_mul F.fills_int_mul F.slot_int_rmul repeat_tuple F.slot_int_index.lookup
    (call_meets F.slot_int_rmul (typeIs_int s k t) F.entry_int_rmul (F.args_int_rmul_2 _ _) (int_rmul_tuple k t l its.toArray n dd sl)
      ⟨ho, rfl, ⟨_, ho, rfl⟩, call_meets F.slot_tuple_mul ⟨_, ho, rfl⟩ F.entry_tuple_mul (F.args_tuple_mul_2 _ _) (tm_same l its.toArray n dd sl k t c0 c1) ⟨ho, ⟨.ref l, H, I, rfl, q⟩⟩⟩)
theorem op_repZ : OpR X (binaryOp .Mult) (rRepZ X.K) := by
  intro pins s σ H x y v u Q I rx ry h
  obtain ⟨l, k, xs, rfl, rfl, hT, h1, h2, hne, q⟩ := h
  cases rx
  obtain ⟨t, rfl⟩ := ry
  obtain ⟨its, r, ⟨⟨cls, dd, data, sl⟩, ho, hcl, n, hd⟩, hs⟩ := I.tuple hT
  simp only at hcl hd
  subst hcl hd
  have c0 : (decide (k < -(2 ^ 63)) || decide (k ≥ 2 ^ 63)) = false := by
    rw [decide_eq_false (by omega), decide_eq_false (by omega)] <;> rfl
  have hi : its.toArray.isEmpty = false := by
    cases r with
    | nil => exact absurd rfl hne
    | cons a b => rfl
  have c1 : (its.toArray.isEmpty || k == 1) = false := by
    rw [hi, Bool.false_or]
    exact beq_eq_false_iff_ne.mpr (by omega)
  have c2 : (decide (k ≤ 0) || its.toArray.isEmpty) = true := by rw [decide_eq_true h2]; rfl
  refine wpAny_binaryOp_repeat_ref (T := "tuple") (U := "int") (by decide) ⟨_, ho, rfl⟩ (fun s' => typeIs_int s' k t) noFill_tuple_mul F.fills_int_mul F.slot_int_rmul repeat_tuple F.slot_int_index.lookup
    (call_meets F.slot_int_rmul (typeIs_int s k t) F.entry_int_rmul (F.args_int_rmul_2 _ _) (int_rmul_tuple k t l its.toArray n dd sl)
      ⟨ho, rfl, ⟨_, ho, rfl⟩, call_meets F.slot_tuple_mul ⟨_, ho, rfl⟩ F.entry_tuple_mul (F.args_tuple_mul_2 _ _) (tm_none l its.toArray n dd sl k t c0 c1 c2) ⟨ho, ?_⟩⟩)
  exact ⟨.ref s.heap.objs.size, _, I.laid (t' := s.toks) (o := .tup []) (fun b ob q => Heap.get?_push_of_some _ q) (Nat.le_refl _) ⟨Nat.zero_le _, [], .nil, IsTup.new _ _⟩, rfl, q _ (I.hok.fresh (Nat.le_refl _))⟩
/-! ### sorted of a tuple -/
theorem col_tup {prog : Program} {w : World} {A : Around} {E : Value → Shared → Prop} {s : Shared} {l : Addr} {vs : List Value} {Q : List Value → Shared → Prop} (hl : s.heap.IsTuple l vs.toArray)
    (h : Q vs { s with heap := (s.heap.push (seqObj "list" #[] 0)).update s.heap.objs.size (Obj.mapSeq (· ++ vs.toArray)) }) (hsz : vs.length ≤ sizeLine) :
    wpAny (model prog w) A (collect (.ref l)) Q E s := by
  obtain ⟨o, ho, hc, n, hd⟩ := id hl
  unfold collect
  refine wpAny_bind (wpAny_runValue (codeAny_builtin entry_proto_collect' ?_))
  show wpAny _ _ (do again (.builtin "list.__iadd__" ⟨[← newList [], .ref l], []⟩)) _ _ s
  refine wpAny_bind (wpAny_newList (wpAny_pure ⟨Code.quiet_builtin _ (by decide +kernel), codeAny_builtin entry_list_iadd' ?_⟩))
  show wpAny _ _ (Builtin.List.listExtendWith (.ref s.heap.objs.size) (.ref l) (.ref s.heap.objs.size)) _ _ { s with heap := s.heap.push (seqObj "list" #[] 0) }
  unfold Builtin.List.listExtendWith
  have hq : (s.heap.push (seqObj "list" #[] 0)).get? l = some o := Heap.get?_push_of_some _ ho
  refine wpAny_bind (wpAny_typeOf (T := "tuple") ⟨o, hq, hc⟩ ?_)
  have ht : (Value.type "tuple" == Value.type "tuple") = true := by rfl
  rw [if_pos (by rw [ht]; simp)]
  refine wpAny_bind (listItems_at hq hd ?_)
  refine wpAny_bind (listItems_at (xs := #[]) (n := 0) (Heap.get?_push_size _ rfl) rfl ?_)
  rw [if_neg (by simp)]
  refine wpAny_bind (listUpdate_at (xs := #[]) (n := 0) (Heap.get?_push_size _ rfl) rfl ?_ (Nat.zero_le _) (by show (#[] ++ vs.toArray).size ≤ sizeLine + 1; simp only [Array.size_append, List.size_toArray, List.length_nil]; omega))
  refine wpAny_pure ?_
  show wpAny (model prog w) A (do
      let z ← load s.heap.objs.size
      match z.data with
      | .seq ys _ => pure ys.toList
      | _ => unsupported "internal:collect") Q E { s with heap := (s.heap.push (seqObj "list" #[] 0)).update s.heap.objs.size (Obj.mapSeq (· ++ vs.toArray)) }
  refine wpAny_bind (wpAny_load (get?_update_seq (Heap.get?_push_size _ rfl) _) ?_)
  show wpAny _ _ (pure ((#[] : Array Value) ++ vs.toArray).toList) Q E _
  rw [show ((#[] : Array Value) ++ vs.toArray).toList = vs by simp]
  exact wpAny_pure h
open SrtO Srt in
theorem srt_tup {prog : Program} {w : World} {A : Around} {E : Value → Shared → Prop} {s : Shared} {l : Addr} {vs : List Value} {lt : Value → Value → Bool} {Q : Value → Shared → Prop} (O : Swo lt) (hl : s.heap.IsTuple l vs.toArray) (hz : vs.length ≤ sizeLine)
    (hS : 2 ≤ vs.length → ∀ (g : Heap) (a : Addr), g.get? a = some (seqObj "list" vs.toArray 0) → (∀ b o, s.heap.get? b = some o → b ≠ a ∧ g.get? b = some o) → SortableO prog w A.in1.in1 { s with heap := g } a vs lt)
    (h : ∀ out : List Value, Srtd lt out → Stb lt out vs → Q (.ref (s.heap.objs.size + 1)) { s with heap := sortedAll s.heap vs out.toArray }) :
    wpAny (model prog w) A (call (.builtin "sorted") [.ref l]) Q E s := by
  refine Calls.call_function_entry kind_sorted plain_sorted entry_sorted (args_sorted1 _) ?_
  unfold Builtin.«sorted»
  refine wpAny_bind (m := checkCount "sorted" 1 1 _) (wpAny_pure ?_)
  refine wpAny_bind (col_tup hl ?_ hz)
  refine wpAny_bind (wpAny_newList ?_ hz)
  generalize hg : (s.heap.push (seqObj "list" #[] 0)).update s.heap.objs.size (Obj.mapSeq (· ++ vs.toArray)) = g
  have g1 : g.objs.size = s.heap.objs.size + 1 := by rw [← hg, Heap.size_update, size_push']
  have g2 : (g.push (seqObj "list" vs.toArray 0)).get? (s.heap.objs.size + 1) = some (seqObj "list" vs.toArray 0) := by
    rw [← g1]; exact Heap.get?_push_size _ rfl
  have g3 : ∀ b o, s.heap.get? b = some o → b ≠ s.heap.objs.size + 1 ∧ (g.push (seqObj "list" vs.toArray 0)).get? b = some o := fun b o q => by
    have hb : b < s.heap.objs.size := Heap.lt_size q
    refine ⟨Nat.ne_of_lt (Nat.lt_succ_of_lt hb), Heap.get?_push_of_some _ ?_⟩
    rw [← hg, Heap.get?_update_ne _ _ _ _ (Nat.ne_of_lt hb)]
    exact Heap.get?_push_of_some _ q
  show wpAny _ _ _ _ _ { s with heap := g.push (seqObj "list" vs.toArray 0) }
  rw [g1]
  refine wpAny_bind (wpAny_holding (wpAny_call_entry slot_list_sort ⟨_, g2, rfl⟩ entry_list_sort (list_sort_ord O g2 hz (fun h2 => hS h2 _ _ g2 g3) fun out o1 o2 => ⟨_, rfl, ?_⟩) (args_list_sort _)))
  refine wpAny_pure ⟨_, rfl, ?_⟩
  subst hg
  exact h out o1 o2
def rSrtT (K : PySem.W.Frag) : List V → Hp → VK → Prop := fun vs H Q => ∃ (a : Addr) (ns : List Int), vs = [V.ref a] ∧ SqT K H a (ns.map V.int) ∧
  ∀ (ns' : List Int) (p : Addr), ns'.Perm ns → ns'.Pairwise (· ≤ ·) → H p = none → Q (.ref p) (upd H p (.lst (ns'.map V.int)))
theorem cr_srtT : CallR X (.builtin "sorted") (rSrtT X.K) := by
  intro pins s σ H vs us Q I r h
  obtain ⟨a, ns, rfl, ht, q⟩ := h
  obtain ⟨its, rv, hl, hz⟩ := I.tuple ht
  rw [Vals.ref1 r]
  have hi := rv.ints
  refine srt_tup SrtO.swo_int hl (by rw [← rv.length]; exact hz) (fun h2 g a' _ _ => SrtO.ints_sortable hi h2) fun out o1 o2 => ?_
  obtain ⟨k1, k2, k3⟩ := SrtO.ints_out hi o1 o2
  obtain ⟨ep, he⟩ := sortedAll_at s.heap its out.toArray
  have hn : ((out.map SrtO.iv).map V.int).length ≤ sizeLine := by
    rw [List.length_map, k2.length_eq]
    rwa [List.length_map] at hz
  exact ⟨.ref _, upd H (s.heap.objs.size + 1) (.lst ((out.map SrtO.iv).map V.int)), I.laid (t' := s.toks) (fun _ _ => sortedAll_old) (Nat.le_succ _) ⟨hn, out, ep, vals_of_ints k1, he⟩, rfl, q _ _ k2 k3 (I.hok.fresh (Nat.le_succ _))⟩
end
theorem sort_uniq : ∀ {a b : List Int}, a.Perm b → a.Pairwise (· ≤ ·) → b.Pairwise (· ≤ ·) → a = b
  | [], b, p, _, _ => by rw [List.nil_perm.mp p]
  | x :: a, [], p, _, _ => by cases List.perm_nil.mp p
  | x :: a, y :: b, p, h1, h2 => by
    have e : x = y := by
      have m1 : x ∈ y :: b := p.mem_iff.mp List.mem_cons_self
      have m2 : y ∈ x :: a := p.mem_iff.mpr List.mem_cons_self
      rw [List.pairwise_cons] at h1 h2
      rcases List.mem_cons.mp m1 with e | m1
      · exact e
      · rcases List.mem_cons.mp m2 with e | m2
        · exact e.symm
        · have := h1.1 y m2; have := h2.1 x m1; omega
    subst e
    rw [sort_uniq (List.Perm.cons_inv p) (List.pairwise_cons.mp h1).2 (List.pairwise_cons.mp h2).2]
theorem sortD_perm (ns : List Int) : (sortD ns).Perm ns := List.mergeSort_perm _ _
theorem sortD_sorted (ns : List Int) : (sortD ns).Pairwise (· ≤ ·) := by
  have := List.pairwise_mergeSort (le := fun a b : Int => decide (a ≤ b)) (by intro a b c; simp; omega) (by intro a b; simp; omega) ns
  exact this.imp (by intro a b h; simpa using h)
theorem least_ok : ∀ {ns : List Int} {k : Int}, leastD ns = some k → k ∈ ns ∧ ∀ y ∈ ns, k ≤ y
  | [], k, h => by cases h
  | n :: r, k, h => by
    simp only [leastD, Option.some.injEq] at h
    subst h
    suffices ∀ (r : List Int) (n : Int), r.foldl (fun a b => if b < a then b else a) n ∈ n :: r ∧ ∀ y ∈ n :: r, r.foldl (fun a b => if b < a then b else a) n ≤ y from this r n
    intro r
    induction r with
    | nil => intro n; simp
    | cons x r ih =>
      intro n
      rw [List.foldl_cons]
      obtain ⟨h1, h2⟩ := ih (if x < n then x else n)
      refine ⟨?_, ?_⟩
      · rcases List.mem_cons.mp h1 with e | e
        · rw [e]; split <;> simp
        · simp [e]
      · intro y hy
        have h3 := h2 (if x < n then x else n) List.mem_cons_self
        rcases List.mem_cons.mp hy with rfl | hy
        · split at h3 <;> rename_i q <;> simp only [q, if_true, if_false] at h3 ⊢ <;> omega
        · rcases List.mem_cons.mp hy with rfl | hy
          · split at h3 <;> rename_i q <;> simp only [q, if_true, if_false] at h3 ⊢ <;> omega
          · exact h2 y (List.mem_cons_of_mem _ hy)
theorem most_ok : ∀ {ns : List Int} {k : Int}, mostD ns = some k → k ∈ ns ∧ ∀ y ∈ ns, y ≤ k
  | [], k, h => by cases h
  | n :: r, k, h => by
    simp only [mostD, Option.some.injEq] at h
    subst h
    suffices ∀ (r : List Int) (n : Int), r.foldl (fun a b => if a < b then b else a) n ∈ n :: r ∧ ∀ y ∈ n :: r, y ≤ r.foldl (fun a b => if a < b then b else a) n from this r n
    intro r
    induction r with
    | nil => intro n; simp
    | cons x r ih =>
      intro n
      rw [List.foldl_cons]
      obtain ⟨h1, h2⟩ := ih (if n < x then x else n)
      refine ⟨?_, ?_⟩
      · rcases List.mem_cons.mp h1 with e | e
        · rw [e]; split <;> simp
        · simp [e]
      · intro y hy
        have h3 := h2 (if n < x then x else n) List.mem_cons_self
        rcases List.mem_cons.mp hy with rfl | hy
        · split at h3 <;> rename_i q <;> simp only [q, if_true, if_false] at h3 ⊢ <;> omega
        · rcases List.mem_cons.mp hy with rfl | hy
          · split at h3 <;> rename_i q <;> simp only [q, if_true, if_false] at h3 ⊢ <;> omega
          · exact h2 y (List.mem_cons_of_mem _ hy)
section
variable {X : Cx}
theorem op_powW : OpR X (binaryOp .Pow) (rI (fun i j => 0 ≤ j ∧ j ≤ 100 ∧ i.natAbs.log2 < 5000) fun i j => .int (i ^ j.toNat)) := opI fun i j _ _ _ _ _ hc q => by
  have hb : Builtin.Int.intBits i ≤ 5000 := by unfold Builtin.Int.intBits; split <;> omega
  refine PyProof.Rows.pow_int hc.1 ?_ q
  have h : (Builtin.Int.intBits i : Int) * j ≤ 5000 * 100 := Int.mul_le_mul (by omega) hc.2.1 hc.1 (by decide)
  omega
theorem cr_listS (hc : X.calm = true) : CallR X (.type "list") (fun xs H Q => ∃ z : Str, xs = [.str z] ∧ z.length ≤ sizeLine ∧ ∀ l, H l = none → Q (.ref l) (upd H l (.lst (z.cps.toList.map fun c => V.str ⟨#[c]⟩)))) := by
  intro pins s σ H xs us Q I r h
  obtain ⟨z, rfl, hz, q⟩ := h
  obtain ⟨u, rfl, t, rfl⟩ := vals1 r
  refine PySem.call_list_str (I.ok.hd hc) z t (fun h' tk acc' c' kp e hi => ?_) hz
  refine ⟨.ref s.heap.objs.size, _, I.laid (t' := tk) (o := .lst (z.cps.toList.map fun c => V.str ⟨#[c]⟩)) kp (Nat.le_refl _) ⟨?_, acc'.toList, c', ?_, ?_⟩, rfl, q _ (I.hok.fresh (Nat.le_refl _))⟩
  · rw [List.length_map, Array.length_toList]; exact hz
  · refine vals_of_at ?_ ?_
    · rw [List.length_map, Array.length_toList, Array.length_toList]; exact hi.1.symm
    · intro i v u h1 h2
      obtain ⟨c, w, e1, e2⟩ := hi.2 i u (by simpa using h2)
      rw [List.getElem?_map] at h1
      have e3 : z.cps.toList[i]? = some c := by simpa using e1
      rw [e3] at h1
      cases h1
      exact ⟨w, e2⟩
  · rw [Array.toArray_toList]; exact e
end
end Pv

/-! ## zip of two rows of one length, each a list or a tuple, with strict=True or without -/
namespace Pv
open PySem PySem.Spec PyProof.Rows L2
open PySem.Sem (wp)
def SA (b : Bool) (h : Heap) (l : Addr) (xs : Array Value) : Prop := match b with
  | true => h.IsList l xs
  | false => h.IsTuple l xs
def IA (b : Bool) (h : Heap) (it l : Addr) (i : Nat) : Prop := match b with
  | true => h.IsListIter it l i
  | false => h.IsTupleIter it l i
section
variable {b : Bool} {h h' : Heap} {a c l it : Addr} {xs : Array Value} {i : Nat}
theorem SA.ext (x : SA b h a xs) (e : Heap.ExtBut c h h') (n : a ≠ c) : SA b h' a xs := by
  cases b
  · exact Heap.IsTuple.extBut x e n
  · exact Heap.IsList.extBut x e n
theorem IA.ext (x : IA b h a l i) (e : Heap.ExtBut c h h') (n : a ≠ c) : IA b h' a l i := by
  cases b
  · exact Heap.IsTupleIter.extBut x e n
  · exact Heap.IsListIter.extBut x e n
theorem IA.put (x : IA b h a l i) (e : ∀ o, h.get? a = some o → h'.get? a = some o) : IA b h' a l i := by
  cases b
  · exact Heap.IsTupleIter.at x e
  · exact Heap.IsListIter.at x e
theorem IA.obj (x : IA b h a l i) : ∃ o, h.get? a = some o ∧ ∃ f, o.data = .fields f := by
  cases b
  · obtain ⟨o, e, _, d⟩ := x; exact ⟨o, e, _, d⟩
  · obtain ⟨o, e, _, d⟩ := x; exact ⟨o, e, _, d⟩
theorem IA.lt (x : IA b h a l i) : a < h.objs.size := by obtain ⟨o, e, _⟩ := x.obj; exact Heap.lt_size e
end
section
variable {prog : Program} {w : World} {A : Around} {E : Value → Shared → Prop} {s : Shared}
theorem nx_item {b : Bool} {it l : Addr} {i : Nat} {xs : Array Value} {x : Value} {Q : Value → Shared → Prop} (hi : IA b s.heap it l i) (hl : SA b s.heap l xs) (hx : xs[i]? = some x)
    (hQ : ∀ h', IA b h' it l (i + 1) → Heap.SameBut it s.heap h' → Q x { s with heap := h' }) : wpAny (model prog w) A (Builtin.SmallTypes.nextOf (.ref it)) Q E s := by
  cases b
  · exact RZ.nextOf_tuple_item hi hl hx hQ
  · exact wpAny_nextOf_list_item hi hl hx hQ
theorem nx_end {b : Bool} {it l : Addr} {i : Nat} {xs : Array Value} {Q : Value → Shared → Prop} (hh : A.handled = none) (hi : IA b s.heap it l i) (hl : SA b s.heap l xs) (hx : xs[i]? = none)
    (hE : ∀ h' e, Heap.ExtBut it s.heap h' → (∃ o, h'.get? e = some o ∧ o.cls = .type "StopIteration") → E (.ref e) { s with heap := h' }) : wpAny (model prog w) A (Builtin.SmallTypes.nextOf (.ref it)) Q E s := by
  cases b
  · exact RZ.nextOf_tuple_end hh hi hl hx hE
  · exact wpAny_nextOf_list_end hh hi hl hx hE
theorem ne_item {b : Bool} {it l : Addr} {i : Nat} {xs : Array Value} {x : Value} {Q : Option Value → Shared → Prop} (hi : IA b s.heap it l i) (hl : SA b s.heap l xs) (hx : xs[i]? = some x)
    (hQ : ∀ h', IA b h' it l (i + 1) → Heap.SameBut it s.heap h' → Q (some x) { s with heap := h' }) : wpAny (model prog w) A (Builtin.SmallTypes.nextOrEnd (.ref it)) Q E s := by
  unfold Builtin.SmallTypes.nextOrEnd
  exact wpAny_bind (wpAny_attempt (nx_item hi hl hx fun h' a1 a2 => wpAny_pure (hQ h' a1 a2)))
theorem ne_end {b : Bool} {it l : Addr} {i : Nat} {xs : Array Value} {Q : Option Value → Shared → Prop} (hh : A.handled = none) (hi : IA b s.heap it l i) (hl : SA b s.heap l xs) (hx : xs[i]? = none)
    (hQ : ∀ h', Heap.ExtBut it s.heap h' → Q none { s with heap := h' }) : wpAny (model prog w) A (Builtin.SmallTypes.nextOrEnd (.ref it)) Q E s := by
  unfold Builtin.SmallTypes.nextOrEnd
  refine wpAny_bind (wpAny_attempt (nx_end hh hi hl hx fun h' e a1 a2 => ?_))
  obtain ⟨o, ho, hc⟩ := a2
  exact wpAny_bind (wpAny_isInstance (T := "StopIteration") (b := true) ⟨o, ho, hc⟩ isSubtype_stop (wpAny_pure (hQ _ a1)))
/-- the zip's object -/
abbrev ZO (st : Bool) (h : Heap) (z TI TO : Addr) (f0 : Value) : Prop :=
  h.get? z = some { cls := .type "zip", dict := none, data := .fields #[f0, .bool false, .bool st, .ref TI, .ref TO], slots := #[] }
theorem zo_item {st b1 b2 : Bool} {z TI TO i1 i2 l1 l2 : Addr} {k : Nat} {xs ys : Array Value} {x y a c : Value} {Q : Value → Shared → Prop} (D : ZipApart z TI TO i1 i2 l1 l2)
    (qz : ZO st s.heap z TI TO .none) (qI : IsPair s.heap TI (.ref i1) (.ref i2)) (qO : IsPair s.heap TO a c)
    (q1 : IA b1 s.heap i1 l1 k) (q2 : IA b2 s.heap i2 l2 k) (r1 : SA b1 s.heap l1 xs) (r2 : SA b2 s.heap l2 ys) (hx : xs[k]? = some x) (hy : ys[k]? = some y)
    (hQ : ∀ h', ZO st h' z TI TO (rawInt s.heap.objs.size) → IsPair h' TO x y → IA b1 h' i1 l1 (k + 1) → IA b2 h' i2 l2 (k + 1) → IsPair h' s.heap.objs.size x y → h'.objs.size = s.heap.objs.size + 1 →
      (∀ c o, c ≠ z → c ≠ TO → c ≠ i1 → c ≠ i2 → s.heap.get? c = some o → h'.get? c = some o) → Q (.ref s.heap.objs.size) { s with heap := h' }) :
    wpAny (model prog w) A (Builtin.«zip.__next__» ⟨[.ref z], []⟩) (fun fin s' => ∃ v, fin = .done (.ret v) ∧ Q v s') E s := by
  show wpAny _ _ (field (.ref z) 2 >>= _) _ _ _
  refine wpAny_bind (wpAny_field qz rfl (x := .bool st) rfl ?_)
  show wpAny _ _ (field (.ref z) 3 >>= _) _ _ _
  refine wpAny_bind (wpAny_field qz rfl (x := .ref TI) rfl (wpAny_bind (wpAny_seqItems qI rfl ?_)))
  show wpAny _ _ (Builtin.SmallTypes.ownedTupleIsFree (.ref z) >>= _) _ _ _
  refine wpAny_bind ?_
  unfold Builtin.SmallTypes.ownedTupleIsFree
  refine wpAny_bind (wpAny_field qz rfl (x := .none) rfl (wpAny_pure ?_))
  simp only [if_true]
  refine wpAny_bind (wpAny_rule (wpAny_bind (wpAny_field qz rfl (x := .ref TO) rfl ?_)))
  refine wpAny_bind (wpAny_setField_rec qz (by simp) fun g1 z1 s1 => ?_)
  replace z1 : ZO st g1 z TI TO .ellipsis := z1
  refine wpAny_bind ?_
  simp only [List.zipIdx_cons, List.zipIdx_nil, List.forIn_cons, List.forIn_nil]
  refine wpAny_bind (wpAny_bind (wpAny_onRaise ?_))
  have step1 : ∀ {R : Option Value → Shared → Prop} {E' : Value → Shared → Prop}, (∀ h', IA b1 h' i1 l1 (k + 1) → Heap.SameBut i1 g1 h' → R (some x) { s with heap := h' }) →
      wpAny (model prog w) A (if (Value.bool st == .bool true) = true then Builtin.SmallTypes.nextOrEnd (.ref i1) else (do return some (← Builtin.SmallTypes.nextOf (.ref i1)))) R E' { s with heap := g1 } := by
    intro R E' hR
    cases st
    · exact wpAny_bind (nx_item (s := { s with heap := g1 }) (q1.ext s1.extBut D.i1z) (r1.ext s1.extBut D.l1z) hx fun h' a1 a2 => wpAny_pure (hR h' a1 a2))
    · exact ne_item (s := { s with heap := g1 }) (q1.ext s1.extBut D.i1z) (r1.ext s1.extBut D.l1z) hx hR
  refine step1 fun g2 i2' s2 => ?_
  have o2 : IsPair g2 TO a c := s2.extBut _ _ D.TOi1 (s1.extBut _ _ D.TOz qO)
  refine wpAny_bind (wpAny_seqItems o2 rfl ?_)
  refine wpAny_bind (wpAny_updateSeq_pair o2 fun g3 o3 s3 => ?_)
  replace o3 : IsPair g3 TO x c := o3
  refine wpAny_bind (wpAny_letGo (wpAny_pure ?_))
  refine wpAny_bind (wpAny_bind (wpAny_onRaise ?_))
  have j2 : IA b2 g3 i2 l2 k := ((q2.ext s1.extBut D.i2z).ext s2.extBut D.i12.symm).ext s3.extBut D.TOi2.symm
  have m2 : SA b2 g3 l2 ys := ((r2.ext s1.extBut D.l2z).ext s2.extBut D.l2i1).ext s3.extBut D.l2TO
  have step2 : ∀ {R : Option Value → Shared → Prop} {E' : Value → Shared → Prop}, (∀ h', IA b2 h' i2 l2 (k + 1) → Heap.SameBut i2 g3 h' → R (some y) { s with heap := h' }) →
      wpAny (model prog w) A (if (Value.bool st == .bool true) = true then Builtin.SmallTypes.nextOrEnd (.ref i2) else (do return some (← Builtin.SmallTypes.nextOf (.ref i2)))) R E' { s with heap := g3 } := by
    intro R E' hR
    cases st
    · exact wpAny_bind (nx_item (s := { s with heap := g3 }) j2 m2 hy fun h' a1 a2 => wpAny_pure (hR h' a1 a2))
    · exact ne_item (s := { s with heap := g3 }) j2 m2 hy hR
  refine step2 fun g4 i4 s4 => ?_
  have o4 : IsPair g4 TO x c := s4.extBut _ _ D.TOi2 o3
  refine wpAny_bind (wpAny_seqItems o4 rfl ?_)
  refine wpAny_bind (wpAny_updateSeq_pair o4 fun g5 o5 s5 => ?_)
  replace o5 : IsPair g5 TO x y := o5
  refine wpAny_bind (wpAny_letGo (wpAny_pure (wpAny_pure ?_)))
  refine wpAny_bind (wpAny_seqItems o5 rfl ?_)
  refine wpAny_bind (wpAny_newTuple ?_)
  have e5 : g5.objs.size = s.heap.objs.size := by rw [s5.1, s4.1, s3.1, s2.1, s1.1]
  have z5 : ZO st g5 z TI TO .ellipsis := s5.extBut _ _ D.TOz.symm (s4.extBut _ _ D.i2z.symm (s3.extBut _ _ D.TOz.symm (s2.extBut _ _ D.i1z.symm z1)))
  have kp : ∀ c o, c ≠ z → c ≠ TO → c ≠ i1 → c ≠ i2 → s.heap.get? c = some o → g5.get? c = some o := fun c o n1 n2 n3 n4 e =>
    s5.extBut _ _ n2 (s4.extBut _ _ n4 (s3.extBut _ _ n2 (s2.extBut _ _ n3 (s1.extBut _ _ n1 e))))
  have p1 : IA b1 g5 i1 l1 (k + 1) := ((i2'.ext s3.extBut D.TOi1.symm).ext s4.extBut D.i12).ext s5.extBut D.TOi1.symm
  have p2 : IA b2 g5 i2 l2 (k + 1) := i4.ext s5.extBut D.TOi2.symm
  have lz : z < g5.objs.size := Heap.lt_size z5
  show wpAny _ _ (Builtin.SmallTypes.ownedTupleHandOut (.ref z) (.ref g5.objs.size) >>= _) _ _ _
  refine wpAny_bind ?_
  unfold Builtin.SmallTypes.ownedTupleHandOut
  have z6 : ZO st (g5.push { cls := .type "tuple", data := .seq #[x, y] }) z TI TO .ellipsis := Heap.get?_push_of_some _ z5
  refine wpAny_bind (wpAny_setField_rec z6 (by simp) fun g7 z7 s7 => ?_)
  replace z7 : ZO st g7 z TI TO (rawInt g5.objs.size) := z7
  refine wpAny_setField_rec z7 (by simp) fun g8 z8 s8 => ?_
  replace z8 : ZO st g8 z TI TO (rawInt g5.objs.size) := z8
  have up : ∀ c o, c ≠ z → g5.get? c = some o → g8.get? c = some o := fun c o n1 e => s8.extBut _ _ n1 (s7.extBut _ _ n1 (Heap.get?_push_of_some _ e))
  have t8 : IsPair g8 g5.objs.size x y := s8.extBut _ _ (Nat.ne_of_gt lz) (s7.extBut _ _ (Nat.ne_of_gt lz) (Heap.get?_push_size _ rfl))
  have e8 : g8.objs.size = g5.objs.size + 1 := by rw [s8.1, s7.1, Heap.size_push]
  rw [e5] at z8 t8 e8
  refine wpAny_pure ⟨_, rfl, ?_⟩
  show Q (.ref g5.objs.size) _
  rw [e5]
  exact hQ g8 z8 (up _ _ D.TOz o5) (p1.put fun o e => up _ o D.i1z e) (p2.put fun o e => up _ o D.i2z e) t8 e8 fun c o n1 n2 n3 n4 e => up c o n1 (kp c o n1 n2 n3 n4 e)
theorem stop_at {α : Type} {Q : α → Shared → Prop} (hh : A.handled = none) (hE : ∀ h' e, (∀ c o, s.heap.get? c = some o → h'.get? c = some o) → (∃ o, h'.get? e = some o ∧ o.cls = .type "StopIteration") → E (.ref e) { s with heap := h' }) :
    wpAny (model prog w) A (Builtin.SmallTypes.stopIteration (α := α)) Q E s := by
  unfold Builtin.SmallTypes.stopIteration
  refine wpAny_bind ?_
  simp only [newExc, newTuple]
  refine wpAny_bind (wpAny_newObj_type ?_ (by size_fits))
  refine wpAny_bind (m := firstArgMember _ _) (wpAny_of_eq (a := Value.none) (by simp only [firstArgMember]; rfl) ?_)
  refine wpAny_newObj_type ?_ (by size_fits)
  simp only [raiseNew]
  refine wpAny_bind (wpAny_handled ?_)
  rw [hh]
  refine wpAny_bind (wpAny_pure (wpAny_throw ?_))
  exact hE _ _ (fun c o q => Heap.get?_push_of_some _ (Heap.get?_push_of_some _ q)) ⟨_, Heap.get?_push_size _ rfl, rfl⟩
theorem zo_end {st b1 b2 : Bool} {z TI TO i1 i2 l1 l2 : Addr} {k : Nat} {xs ys : Array Value} {a c : Value} {Q : Fin → Shared → Prop} (hh : A.handled = none) (D : ZipApart z TI TO i1 i2 l1 l2)
    (qz : ZO st s.heap z TI TO .none) (qI : IsPair s.heap TI (.ref i1) (.ref i2)) (qO : IsPair s.heap TO a c)
    (q1 : IA b1 s.heap i1 l1 k) (q2 : IA b2 s.heap i2 l2 k) (r1 : SA b1 s.heap l1 xs) (r2 : SA b2 s.heap l2 ys) (hx : xs[k]? = none) (hy : ys[k]? = none)
    (hE : ∀ h' e, (∀ c o, c ≠ z → c ≠ TO → c ≠ i1 → c ≠ i2 → s.heap.get? c = some o → h'.get? c = some o) → (∃ o, h'.get? e = some o ∧ o.cls = .type "StopIteration") → E (.ref e) { s with heap := h' }) :
    wpAny (model prog w) A (Builtin.«zip.__next__» ⟨[.ref z], []⟩) Q E s := by
  show wpAny _ _ (field (.ref z) 2 >>= _) _ _ _
  refine wpAny_bind (wpAny_field qz rfl (x := .bool st) rfl ?_)
  show wpAny _ _ (field (.ref z) 3 >>= _) _ _ _
  refine wpAny_bind (wpAny_field qz rfl (x := .ref TI) rfl (wpAny_bind (wpAny_seqItems qI rfl ?_)))
  show wpAny _ _ (Builtin.SmallTypes.ownedTupleIsFree (.ref z) >>= _) _ _ _
  refine wpAny_bind ?_
  unfold Builtin.SmallTypes.ownedTupleIsFree
  refine wpAny_bind (wpAny_field qz rfl (x := .none) rfl (wpAny_pure ?_))
  simp only [if_true]
  refine wpAny_bind (wpAny_rule (wpAny_bind (wpAny_field qz rfl (x := .ref TO) rfl ?_)))
  refine wpAny_bind (wpAny_setField_rec qz (by simp) fun g1 z1 s1 => ?_)
  replace z1 : ZO st g1 z TI TO .ellipsis := z1
  refine wpAny_bind ?_
  simp only [List.zipIdx_cons, List.zipIdx_nil, List.forIn_cons, List.forIn_nil]
  refine wpAny_bind (wpAny_bind (wpAny_onRaise ?_))
  have j1 : IA b1 g1 i1 l1 k := q1.ext s1.extBut D.i1z
  have m1 : SA b1 g1 l1 xs := r1.ext s1.extBut D.l1z
  cases st
  · show wpAny _ _ (Builtin.SmallTypes.nextOf (.ref i1) >>= _) _ _ _
    refine wpAny_bind (nx_end (s := { s with heap := g1 }) hh j1 m1 hx fun g2 e s2 he => ?_)
    obtain ⟨oe, hoe, hce⟩ := he
    have z2 : ZO false g2 z TI TO .ellipsis := s2 _ _ D.i1z.symm z1
    have ez : e ≠ z := fun x => by subst x; rw [z2] at hoe; cases hoe; simp at hce
    exact wpAny_setField_rec z2 (by simp) fun g3 _ s3 => hE g3 e (fun c o n1 _ n3 _ x => s3.extBut _ _ n1 (s2 _ _ n3 (s1.extBut _ _ n1 x))) ⟨oe, s3.extBut _ _ ez hoe, hce⟩
  · show wpAny _ _ (Builtin.SmallTypes.nextOrEnd (.ref i1)) _ _ _
    refine ne_end (s := { s with heap := g1 }) hh j1 m1 hx fun g2 s2 => ?_
    have z2 : ZO true g2 z TI TO .ellipsis := s2 _ _ D.i1z.symm z1
    refine wpAny_bind (wpAny_setField_rec z2 (by simp) fun g3 _ s3 => ?_)
    refine wpAny_bind ?_
    refine wpAny_bind (m := forIn ((List.drop 1 [Value.ref i1, Value.ref i2]).zipIdx 1) PUnit.unit _) ?_
    simp only [List.drop_succ_cons, List.drop_zero, List.zipIdx_cons, List.zipIdx_nil, List.forIn_cons, List.forIn_nil]
    have j2 : IA b2 g3 i2 l2 k := ((q2.ext s1.extBut D.i2z).ext s2 D.i12.symm).ext s3.extBut D.i2z
    have m2 : SA b2 g3 l2 ys := ((r2.ext s1.extBut D.l2z).ext s2 D.l2i1).ext s3.extBut D.l2z
    refine wpAny_bind (wpAny_bind (ne_end (s := { s with heap := g3 }) hh j2 m2 hy fun g4 s4 => ?_))
    refine wpAny_ite_false (by decide) (wpAny_pure (wpAny_pure (wpAny_bind (wpAny_rule ?_))))
    refine stop_at (s := { s with heap := g4 }) hh fun g5 e k5 he => hE g5 e (fun c o n1 _ n3 n4 x => k5 c o (s4 _ _ n4 (s3.extBut _ _ n1 (s2 _ _ n3 (s1.extBut _ _ n1 x))))) he
theorem pz_item {st b1 b2 : Bool} {z TI TO i1 i2 l1 l2 : Addr} {k : Nat} {xs ys : Array Value} {x y a c : Value} {Q : Option Value → Shared → Prop} (D : ZipApart z TI TO i1 i2 l1 l2)
    (qz : ZO st s.heap z TI TO .none) (qI : IsPair s.heap TI (.ref i1) (.ref i2)) (qO : IsPair s.heap TO a c)
    (q1 : IA b1 s.heap i1 l1 k) (q2 : IA b2 s.heap i2 l2 k) (r1 : SA b1 s.heap l1 xs) (r2 : SA b2 s.heap l2 ys) (hx : xs[k]? = some x) (hy : ys[k]? = some y)
    (hQ : ∀ h', ZO st h' z TI TO (rawInt s.heap.objs.size) → IsPair h' TO x y → IA b1 h' i1 l1 (k + 1) → IA b2 h' i2 l2 (k + 1) → IsPair h' s.heap.objs.size x y → h'.objs.size = s.heap.objs.size + 1 →
      (∀ c o, c ≠ z → c ≠ TO → c ≠ i1 → c ≠ i2 → s.heap.get? c = some o → h'.get? c = some o) → Q (some (.ref s.heap.objs.size)) { s with heap := h' }) :
    wpAny (model prog w) A (pyNext (.ref z)) Q E s := by
  have ty : s.TypeIs (.ref z) "zip" := ⟨_, qz, rfl⟩
  unfold pyNext
  exact wpAny_bind (wpAny_attempt (wpAny_callSpecial?_slot (name := Str.ofString "__next__") ty F.slot_zip_next
    (wpAny_call_entry F.slot_zip_next ty F.entry_zip_next
      (zo_item D qz qI qO q1 q2 r1 r2 hx hy fun h' a1 a2 a3 a4 a5 a6 a7 => wpAny_pure (hQ h' a1 a2 a3 a4 a5 a6 a7)) (F.args_zip_next_1 _))))
theorem pz_end {st b1 b2 : Bool} {z TI TO i1 i2 l1 l2 : Addr} {k : Nat} {xs ys : Array Value} {a c : Value} {Q : Option Value → Shared → Prop} (hh : A.handled = none) (D : ZipApart z TI TO i1 i2 l1 l2)
    (qz : ZO st s.heap z TI TO .none) (qI : IsPair s.heap TI (.ref i1) (.ref i2)) (qO : IsPair s.heap TO a c)
    (q1 : IA b1 s.heap i1 l1 k) (q2 : IA b2 s.heap i2 l2 k) (r1 : SA b1 s.heap l1 xs) (r2 : SA b2 s.heap l2 ys) (hx : xs[k]? = none) (hy : ys[k]? = none)
    (hQ : ∀ h', (∀ c o, c ≠ z → c ≠ TO → c ≠ i1 → c ≠ i2 → s.heap.get? c = some o → h'.get? c = some o) → Q none { s with heap := h' }) : wpAny (model prog w) A (pyNext (.ref z)) Q E s := by
  have ty : s.TypeIs (.ref z) "zip" := ⟨_, qz, rfl⟩
  unfold pyNext
  refine wpAny_bind (wpAny_attempt (wpAny_callSpecial?_slot (name := Str.ofString "__next__") ty F.slot_zip_next
    (wpAny_call_entry F.slot_zip_next ty F.entry_zip_next (zo_end hh D qz qI qO q1 q2 r1 r2 hx hy fun h' e hk he => ?_) (F.args_zip_next_1 _))))
  obtain ⟨o, ho, hc⟩ := he
  exact wpAny_bind (wpAny_isInstance (T := "StopIteration") (b := true) ⟨o, ho, hc⟩ isSubtype_stop (wpAny_pure (hQ _ hk)))
theorem go_zip {st : Bool} {elts : List Expr} {kk : Nat} {pos : Pos} {z TI TO T : Addr} {Q : Unit → Shared → Prop} (qz : ZO st s.heap z TI TO (rawInt T))
    (hQ : ∀ h', ZO st h' z TI TO .none → Heap.SameBut z s.heap h' → Q () { s with heap := h' }) :
    wpAny (model prog w) A (letOwnedTupleGo (.Tuple elts kk pos) (.ref z) (.ref T)) Q E s := by
  unfold letOwnedTupleGo
  refine wpAny_bind (wpAny_load qz ?_)
  refine wpAny_ite_true (c := _ = true) (by simp) ?_
  refine wpAny_bind (wpAny_rule ?_)
  exact wpAny_setField_rec qz (by simp) fun h' z' s' => hQ h' z' s'
theorem it_zip {st : Bool} {z TI TO : Addr} {f0 : Value} {Q : Value → Shared → Prop} (qz : ZO st s.heap z TI TO f0) (h : Q (.ref z) s) : wpAny (model prog w) A (pyIter (.ref z)) Q E s := by
  have ty : s.TypeIs (.ref z) "zip" := ⟨_, qz, rfl⟩
  refine wpAny_pyIter_slot ty F.slot_zip_iter (wpAny_call_entry F.slot_zip_iter ty F.entry_zip_iter ?_ (F.args_zip_iter_1 _))
  exact wpAny_pure ⟨_, rfl, "zip", _, ty, F.slot_zip_next.lookup, h⟩
end
def ito (b : Bool) (l : Addr) : Obj := match b with
  | true => { cls := .type "list_iterator", data := .fields #[.ref l, .int 0 0] }
  | false => { cls := .type "tuple_iterator", data := .fields #[.ref l, .int 0 0] }
abbrev zh1 (b1 : Bool) (h : Heap) (l1 : Addr) : Heap := h.push (ito b1 l1)
abbrev zh2 (b1 b2 : Bool) (h : Heap) (l1 l2 : Addr) : Heap := (zh1 b1 h l1).push (ito b2 l2)
abbrev zh3 (b1 b2 : Bool) (h : Heap) (l1 l2 : Addr) : Heap := (zh2 b1 b2 h l1 l2).push { cls := .type "tuple", data := .seq #[.ref h.objs.size, .ref (zh1 b1 h l1).objs.size] }
abbrev zh4 (b1 b2 : Bool) (h : Heap) (l1 l2 : Addr) : Heap := (zh3 b1 b2 h l1 l2).push { cls := .type "tuple", data := .seq #[.none, .none] }
abbrev zh5 (st b1 b2 : Bool) (h : Heap) (l1 l2 : Addr) : Heap := (zh4 b1 b2 h l1 l2).push { cls := .type "zip", data := .fields #[.none, .bool false, .bool st, .ref (zh2 b1 b2 h l1 l2).objs.size, .ref (zh3 b1 b2 h l1 l2).objs.size] }
theorem it_seq {prog : Program} {w : World} {A : Around} {E : Value → Shared → Prop} {s : Shared} {b : Bool} {l : Addr} {xs : Array Value} {Q : Value → Shared → Prop} (r : SA b s.heap l xs)
    (h : Q (.ref s.heap.objs.size) { s with heap := s.heap.push (ito b l) }) : wpAny (model prog w) A (pyIter (.ref l)) Q E s := by
  cases b
  · exact wpAny_pyIter_tuple r h
  · exact wpAny_pyIter_list r h
def zkw (st : Bool) : List (Str × Value) := match st with
  | true => [(Str.ofString "strict", .bool true)]
  | false => []
theorem zn_meets (st b1 b2 : Bool) (l1 l2 : Addr) (xs ys : Array Value) :
    Meets (Builtin.«zip.__new__» ⟨[.type "zip", .ref l1, .ref l2], zkw st⟩) (fun _ R s => SA b1 s.heap l1 xs ∧ SA b2 s.heap l2 ys ∧
      R (.ok (.ret (.ref (zh4 b1 b2 s.heap l1 l2).objs.size))) { s with heap := zh5 st b1 b2 s.heap l1 l2 }) :=
  .of_wp fun prog w A R s h => by
    obtain ⟨hp, g, d, tk, os⟩ := s; obtain ⟨r1, r2, h⟩ := h
    have hsub := sub_zip
    have y1 : SA b1 (Shared.heap ⟨hp, g, d, tk, os⟩) l1 xs := r1
    have y2 : SA b2 (Shared.heap ⟨hp.push (ito b1 l1), g, d, tk, os⟩) l2 ys := by
      cases b2
      · exact Heap.IsTuple.push r2 _
      · exact Heap.IsList.push r2 _
    cases st
    · unfold zkw
      wp_walk using it_seq y1, it_seq y2
      exact ⟨_, rfl, h⟩
    · unfold zkw
      wp_walk using it_seq y1, it_seq y2
      exact ⟨_, rfl, h⟩
section
variable {prog : Program} {w : World} {A : Around} {E : Value → Shared → Prop} {s : Shared}
theorem zk_type (st : Bool) (a b : Value) : checkTypeCall "zip" ⟨[a, b], zkw st⟩ = pure () := by cases st <;> kernel_rfl
theorem zk_new (st : Bool) (a b : Value) : checkBuiltinCall "zip.__new__" ⟨[.type "zip", a, b], zkw st⟩ = pure () := by cases st <;> kernel_rfl
theorem zk_init (st : Bool) (a b c : Value) : argsOk "object.__init__" ⟨[a, b, c], zkw st⟩ := by
  cases st
  · exact F.args_object_init_3 a b c
  · unfold argsOk; kernel_rfl
theorem call_zo {st b1 b2 : Bool} {l1 l2 : Addr} {xs ys : Array Value} {Q : Value → Shared → Prop} (r1 : SA b1 s.heap l1 xs) (r2 : SA b2 s.heap l2 ys)
    (h : ∀ h', ZO st h' (s.heap.objs.size + 4) (s.heap.objs.size + 2) (s.heap.objs.size + 3) .none → IsPair h' (s.heap.objs.size + 2) (.ref s.heap.objs.size) (.ref (s.heap.objs.size + 1)) →
      IsPair h' (s.heap.objs.size + 3) .none .none → IA b1 h' s.heap.objs.size l1 0 → IA b2 h' (s.heap.objs.size + 1) l2 0 → h'.objs.size = s.heap.objs.size + 5 →
      (∀ c o, s.heap.get? c = some o → h'.get? c = some o) → Q (.ref (s.heap.objs.size + 4)) { s with heap := h' }) :
    wpAny (model prog w) A (call (.type "zip") [.ref l1, .ref l2] (zkw st)) Q E s := by
  refine callType_newKw F.called_zip (by decide) (zk_type st _ _) (zk_new st _ _) (fun obj => zk_init st obj _ _) F.entry_zip_new (zn_meets st b1 b2 l1 l2 xs ys) ⟨r1, r2, ?_⟩
  have n1 : (zh1 b1 s.heap l1).objs.size = s.heap.objs.size + 1 := Heap.size_push ..
  have n2 : (zh2 b1 b2 s.heap l1 l2).objs.size = s.heap.objs.size + 2 := by rw [Heap.size_push, n1]
  have n3 : (zh3 b1 b2 s.heap l1 l2).objs.size = s.heap.objs.size + 3 := by rw [Heap.size_push, n2]
  have n4 : (zh4 b1 b2 s.heap l1 l2).objs.size = s.heap.objs.size + 4 := by rw [Heap.size_push, n3]
  have n5 : (zh5 st b1 b2 s.heap l1 l2).objs.size = s.heap.objs.size + 5 := by rw [Heap.size_push, n4]
  have u5 : (zh5 st b1 b2 s.heap l1 l2).get? (zh4 b1 b2 s.heap l1 l2).objs.size = some _ := Heap.get?_push_size _ rfl
  have u4 : (zh5 st b1 b2 s.heap l1 l2).get? (zh3 b1 b2 s.heap l1 l2).objs.size = some _ := Heap.get?_push_of_some _ (Heap.get?_push_size _ rfl)
  have u3 : (zh5 st b1 b2 s.heap l1 l2).get? (zh2 b1 b2 s.heap l1 l2).objs.size = some _ := Heap.get?_push_of_some _ (Heap.get?_push_of_some _ (Heap.get?_push_size _ rfl))
  have u2 : (zh5 st b1 b2 s.heap l1 l2).get? (zh1 b1 s.heap l1).objs.size = some (ito b2 l2) := Heap.get?_push_of_some _ (Heap.get?_push_of_some _ (Heap.get?_push_of_some _ (Heap.get?_push_size _ (by cases b2 <;> rfl))))
  have u1 : (zh5 st b1 b2 s.heap l1 l2).get? s.heap.objs.size = some (ito b1 l1) := Heap.get?_push_of_some _ (Heap.get?_push_of_some _ (Heap.get?_push_of_some _ (Heap.get?_push_of_some _ (Heap.get?_push_size _ (by cases b1 <;> rfl)))))
  show _ ∧ _
  rw [n2, n3, n4] at u5
  rw [n1, n2] at u3
  rw [n3] at u4
  rw [n1] at u2
  rw [n4]
  exact ⟨⟨_, u5, rfl⟩, h _ u5 u3 u4 (by cases b1 <;> exact ⟨_, u1, rfl, rfl⟩) (by cases b2 <;> exact ⟨_, u2, rfl, rfl⟩) n5 fun c o x =>
    Heap.get?_push_of_some _ (Heap.get?_push_of_some _ (Heap.get?_push_of_some _ (Heap.get?_push_of_some _ (Heap.get?_push_of_some _ x))))⟩
end
end Pv

namespace Pv
open PySem PySem.Spec PyProof.Rows L2
def SqG (b : Bool) (K : PySem.W.Frag) (H : Hp) (a : Addr) (xs : List V) : Prop := match b with
  | true => SqL K H a xs
  | false => SqT K H a xs
section
variable {X : Cx} {pins : List (Addr × Obj)} {σ : L2.St} {H : Hp} {s : Shared} {b : Bool} {a : Addr} {xs ys : List V}
theorem sg_heap (I : Inv X pins σ H s) (h : SqG b X.K H a xs) : ∃ its, Vals xs its ∧ SA b s.heap a its.toArray ∧ xs.length ≤ sizeLine := by
  cases b
  · obtain ⟨its, rv, p, z⟩ := I.tuple h; exact ⟨its, rv, p, z⟩
  · obtain ⟨its, rv, p, z⟩ := I.list h; exact ⟨its, rv, p.isList, z⟩
theorem sg_inj (I : Inv X pins σ H s) (h : SqG b X.K H a xs) (h' : SqG b X.K H a ys) : xs = ys := by
  cases b
  · exact I.tuple_inj h h'
  · exact I.list_inj h h'
theorem SA.lt {h : Heap} {xs : Array Value} (r : SA b h a xs) : a < h.objs.size := by
  cases b
  · obtain ⟨o, e, _⟩ := r; exact Heap.lt_size e
  · obtain ⟨o, e, _⟩ := r; exact Heap.lt_size e
end
def ItG (b1 b2 : Bool) (K : PySem.W.Frag) (a c : Addr) : L2.It :=
  ⟨fun i H => ∃ (xs ys : List V) (x y : V), SqG b1 K H a xs ∧ SqG b2 K H c ys ∧ xs[i]? = some x ∧ ys[i]? = some y,
    fun i H v H' => ∃ T x y, v = .ref T ∧ H T = none ∧ H' = upd H T (.tup [x, y]) ∧ (∀ xs, SqG b1 K H a xs → xs[i]? = some x) ∧ ∀ ys, SqG b2 K H c ys → ys[i]? = some y,
    fun i H => ∃ xs ys : List V, SqG b1 K H a xs ∧ SqG b2 K H c ys ∧ xs.length ≤ i ∧ ys.length ≤ i⟩
theorem turn_zo {st b1 b2 : Bool} {P : Program} {w : World} {K : PySem.W.Frag} {elts : List Expr} {kk : Nat} {tpos : Pos} {a b z TI TO i1 i2 : Addr} (D : ZipApart z TI TO i1 i2 a b) :
    Turn P w K (.Tuple elts kk tpos) (ItG b1 b2 K a b) [z, TI, TO, i1, i2] z (fun i h => ZO st h z TI TO .none ∧ IsPair h TI (.ref i1) (.ref i2) ∧ (∃ x y, IsPair h TO x y) ∧ IA b1 h i1 a i ∧ IA b2 h i2 b i) where
  mem := by simp
  obj := fun i h ts c hc => by
    obtain ⟨qz, qI, ⟨x, y, qO⟩, q1, q2⟩ := ts
    obtain ⟨o1, e1, f1, d1⟩ := q1.obj
    obtain ⟨o2, e2, f2, d2⟩ := q2.obj
    have e' : c = z ∨ c = TI ∨ c = TO ∨ c = i1 ∨ c = i2 := by simpa using hc
    rcases e' with q | q | q | q | q
    · rw [q]; exact ⟨_, qz, fun v q => nomatch q⟩
    · rw [q]; exact ⟨_, qI, fun v q => nomatch q⟩
    · rw [q]; exact ⟨_, qO, fun v q => nomatch q⟩
    · rw [q]; exact ⟨o1, e1, fun v q => by rw [d1] at q; cases q⟩
    · rw [q]; exact ⟨o2, e2, fun v q => by rw [d2] at q; cases q⟩
  keep := fun i h h' ts k => by
    obtain ⟨qz, qI, ⟨x, y, qO⟩, q1, q2⟩ := ts
    exact ⟨k z (by simp) _ qz, k TI (by simp) _ qI, ⟨x, y, k TO (by simp) _ qO⟩, q1.put fun o q => k i1 (by simp) o q, q2.put fun o q => k i2 (by simp) o q⟩
  item := by
    intro X hP hw hK hc i pins s σ H E I hf ts hg
    subst hP hw hK
    obtain ⟨qz, qI, ⟨x0, y0, qO⟩, q1, q2⟩ := ts
    obtain ⟨xs, ys, x, y, hqx, hqy, hx, hy⟩ := hg
    obtain ⟨its, rv, p, _⟩ := sg_heap I hqx
    obtain ⟨its2, rv2, p2, _⟩ := sg_heap I hqy
    obtain ⟨u, hu, ru⟩ := rv.get hx
    obtain ⟨u2, hu2, ru2⟩ := rv2.get hy
    have lz : z < s.heap.objs.size := Heap.lt_size qz
    refine pz_item D qz qI qO q1 q2 p p2 (x := u) (y := u2) (by simpa using hu) (by simpa using hu2) fun h' z' o' k1 k2 hT hsz hk => ?_
    refine ⟨_, rfl, go_zip (s := { s with heap := h' }) z' fun g z'' sb => ?_⟩
    have hT2 : g.get? s.heap.objs.size = some { cls := .type "tuple", data := .seq #[u, u2] } := (sb.2 _ (Nat.ne_of_gt lz)).trans hT
    have new : ObjOk X.prog X.w (upd H s.heap.objs.size (.tup [x, y])) g s.heap.objs.size (.tup [x, y]) :=
      ⟨by show 2 ≤ sizeLine; decide, [u, u2], .cons ru (.cons ru2 .nil), ⟨_, hT2, rfl, _, rfl⟩⟩
    have I1 : Inv X pins σ (upd H s.heap.objs.size (.tup [x, y])) { s with heap := g } :=
      I.turnedNew (t' := s.toks) (ch := [z, TI, TO, i1, i2]) (fun c o hb q => (sb.2 c (fun q' => hb (by simp [q']))).trans (hk c o (fun q' => hb (by simp [q'])) (fun q' => hb (by simp [q'])) (fun q' => hb (by simp [q'])) (fun q' => hb (by simp [q'])) q)) hf (Nat.le_refl _) new
    refine ⟨.ref s.heap.objs.size, _, I1, rfl, ⟨_, x, y, rfl, I.hok.fresh (Nat.le_refl _), rfl, fun l hl => by rw [sg_inj I hl hqx]; exact hx, fun l hl => by rw [sg_inj I hl hqy]; exact hy⟩, ⟨z'', ?_, ⟨u, u2, ?_⟩, ?_, ?_⟩, fun c hcm => ?_⟩
    · exact (sb.2 _ D.TIz).trans (hk _ _ D.TIz D.TITO D.TIi1 D.TIi2 qI)
    · exact (sb.2 _ D.TOz).trans o'
    · exact k1.put fun o q => (sb.2 _ D.i1z).trans q
    · exact k2.put fun o q => (sb.2 _ D.i2z).trans q
    · have hlt : c < s.heap.objs.size := by
        have e' : c = z ∨ c = TI ∨ c = TO ∨ c = i1 ∨ c = i2 := by simpa using hcm
        rcases e' with q | q | q | q | q
        · rw [q]; exact lz
        · rw [q]; exact Heap.lt_size qI
        · rw [q]; exact Heap.lt_size qO
        · rw [q]; exact q1.lt
        · rw [q]; exact q2.lt
      rw [upd_ne (Nat.ne_of_lt hlt)]
      exact (hf c hcm).1
  done := by
    intro X hP hw hK hc i pins s σ H E I hf ts hg
    subst hP hw hK
    obtain ⟨qz, qI, ⟨x0, y0, qO⟩, q1, q2⟩ := ts
    obtain ⟨xs, ys, hqx, hqy, n1, n2⟩ := hg
    obtain ⟨its, rv, p, _⟩ := sg_heap I hqx
    obtain ⟨its2, rv2, p2, _⟩ := sg_heap I hqy
    have l1 := rv.length
    have l2 := rv2.length
    exact pz_end (I.ok.hd hc) D qz qI qO q1 q2 p p2 (by simp; omega) (by simp; omega) fun h' hk => ⟨rfl, I.turnedL (t' := s.toks) (ch := [z, TI, TO, i1, i2]) (fun c o hb q =>
      hk c o (fun q' => hb (by simp [q'])) (fun q' => hb (by simp [q'])) (fun q' => hb (by simp [q'])) (fun q' => hb (by simp [q'])) q) hf⟩
  self := fun A i s Q E ts h => it_zip ts.1 h
def iZipG (K : PySem.W.Frag) (ta : TA) : TI := fun σ H R => ta σ H fun vs H1 => ∃ b1 b2 a c xs ys, vs = [.ref a, .ref c] ∧ SqG b1 K H1 a xs ∧ SqG b2 K H1 c ys ∧ R (ItG b1 b2 K a c) H1
section
variable {M : Model} {A : Around} {E : Value → Shared → Prop} {s : Shared} {env : PySem.Env}
theorem cw_typeKw {pos : Pos} {T : String} {first : List Value} {args : List (Bool × Sem Value)} {keywords : List (Option Str × Sem Value)} {Q : Value → Shared → Prop} (hp : args.any (·.1) = false) (hk : keywords.any (·.1.isNone) = false)
    (h : wpAny M A (evalArgs (.type T) true args keywords) (fun a s₁ => wpAny M A (call (.type T) (first ++ a.pos) a.kw) Q E s₁) E s) : wpAny M A (callWith pos (.type T) first args keywords) Q E s := by
  unfold callWith
  refine wpAny_bind (wpAny_holding (wpAny_mono h (fun a s1 h1 => wpAny_bind (wpAny_standAt ?_)) fun _ _ x => x))
  simp only [hp, hk, Bool.or_false]
  exact wpAny_bind (wpAny_pure (wpAny_bind (wpAny_mono h1 (fun r s2 hr => wpAny_bind (wpAny_holding (wpAny_point (wpAny_pure hr)))) fun _ _ x => x)))
theorem cw_typeK {pos : Pos} {T : String} {e : Expr} {rest : List Expr} {kws : List Keyword} {Q : Value → Shared → Prop}
    (h : wpAny M A (spliced (backTo pos (starEach (e :: rest) env))) (fun vs s₁ => wpAny M A (evalAll ((backToKw pos (keywordEach kws env)).map (·.2)))
      (fun kvs s₂ => wpAny M A (call (.type T) vs (((backToKw pos (keywordEach kws env)).filterMap (·.1)).zip kvs)) Q E s₂) E s₁) E s)
    (he : backTo pos (starEach (e :: rest) env) = (false, eval e env) :: backTo pos (starEach rest env)) (hp : (backTo pos (starEach (e :: rest) env)).any (·.1) = false)
    (hall : (backToKw pos (keywordEach kws env)).all (·.1.isSome) = true) (hk : (backToKw pos (keywordEach kws env)).any (·.1.isNone) = false) :
    wpAny M A (callWith pos (.type T) [] (backTo pos (starEach (e :: rest) env)) (backToKw pos (keywordEach kws env))) Q E s := by
  refine cw_typeKw hp hk ?_
  rw [he] at h ⊢
  exact evalArgs_kwB hall h
end
section
variable {X : Cx} {e e2 : Expr} {ta : TA} {p pos tpos kpos vpos : Pos} {elts : List Expr} {kk kn : Nat}
theorem zip_goes {st : Bool} {pins : List (Addr × Obj)} {s1 : Shared} {σ : L2.St} {H1 : Hp} {R : L2.It → Hp → Prop} {vs : List V} {us : List Value} (I1 : Inv X pins σ H1 s1) (r1 : Vals vs us)
    (q1 : ∃ b1 b2 a c xs ys, vs = [.ref a, .ref c] ∧ SqG b1 X.K H1 a xs ∧ SqG b2 X.K H1 c ys ∧ R (ItG b1 b2 X.K a c) H1) :
    wpAny (model X.prog X.w) X.A (call (.type "zip") us (zkw st)) (fun v s2 => wpAny (model X.prog X.w) X.A (pyIter v) (fun itv s3 => PIE X pins σ (.Tuple elts kk tpos) R itv s3) X.xe s2) X.xe s1 := by
  obtain ⟨b1, b2, a, c, xs, ys, rfl, hqx, hqy, q⟩ := q1
  cases r1 with
  | cons r rr =>
    cases rr with
    | cons r' rr =>
      cases rr
      cases r
      cases r'
      have fresh : ∀ c, c ∈ [s1.heap.objs.size + 4, s1.heap.objs.size + 2, s1.heap.objs.size + 3, s1.heap.objs.size, s1.heap.objs.size + 1] → FpOk X pins H1 c := fun c hcm => by
        have hle : s1.heap.objs.size ≤ c := by
          simp only [List.mem_cons, List.not_mem_nil, or_false] at hcm
          rcases hcm with z | z | z | z | z
          · rw [z]; exact Nat.le_add_right _ _
          · rw [z]; exact Nat.le_add_right _ _
          · rw [z]; exact Nat.le_add_right _ _
          · rw [z]; exact Nat.le_refl _
          · rw [z]; exact Nat.le_add_right _ _
        exact I1.fpOk hle (I1.hok.fresh hle)
      obtain ⟨its, rv, p1, _⟩ := sg_heap I1 hqx
      obtain ⟨its2, rv2, p2, _⟩ := sg_heap I1 hqy
      refine call_zo (st := st) p1 p2 fun h' hz hI hO k1 k2 hsz hk => it_zip hz ?_
      have I2 : Inv X pins σ H1 { s1 with heap := h' } := I1.kept (t' := s1.toks) hk
      exact ⟨s1.heap.objs.size + 4, [s1.heap.objs.size + 4, s1.heap.objs.size + 2, s1.heap.objs.size + 3, s1.heap.objs.size, s1.heap.objs.size + 1], _, _, H1, rfl, I2, turn_zo (PySem.W.ktu_apart s1.heap.objs.size a c p1.lt p2.lt), ⟨hz, hI, ⟨_, _, hO⟩, k1, k2⟩, fresh, q⟩
theorem pi_zipG (hg : Gl X "zip") (hm : X.mg "zip" = none) (ha : PA X [e, e2] ta) (hs : starEach [e, e2] X.env = (false, eval e X.env) :: starEach [e2] X.env) (hpl : (backTo pos (starEach [e2] X.env)).any (·.1) = false) :
    PI X (.Tuple elts kk tpos) (.Call (.Name "zip" p) [e, e2] [] pos) (iZipG X.K ta) := by
  refine ⟨fun pins s σ H R I h => ?_⟩
  exact Call_ (ld_blt I hg hm PyProof.Rows.boot_zip (PyProof.Rows.callWith_type1 (thn (ha.run pos pins s σ H _ I h) fun us s1 ⟨vs, H1, I1, r1, q1⟩ => zip_goes (st := false) I1 r1 q1) hs hpl))
theorem pi_zipS (hg : Gl X "zip") (hm : X.mg "zip" = none) (ha : PA X [e, e2] ta) (hs : starEach [e, e2] X.env = (false, eval e X.env) :: starEach [e2] X.env) (hpl : (backTo pos (starEach [e, e2] X.env)).any (·.1) = false) :
    PI X (.Tuple elts kk tpos) (.Call (.Name "zip" p) [e, e2] [⟨some "strict", .Constant (.bool true) kn vpos, kpos⟩] pos) (iZipG X.K ta) := by
  refine ⟨fun pins s σ H R I h => ?_⟩
  refine wpAny_Call_Name_kw (ld_blt I hg hm PyProof.Rows.boot_zip ?_)
  refine cw_typeK (thn (ha.run pos pins s σ H _ I h) fun us s1 ⟨vs, H1, I1, r1, q1⟩ => ?_) (by rw [hs]; rfl) hpl rfl rfl
  refine kws_cons ?_
  refine wpAny_Constant_bool ?_
  exact kws_nil (zip_goes (st := true) I1 r1 q1)
end
end Pv

namespace Pv
open PySem L2

theorem lim_eq : lim = sizeLine := by rw [sizeLine_eq]; rfl

/-- what is wanted of a value; of a new list -/
def PV (K : PySem.W.Frag) (Z : Addr → Prop) (ph : List Addr) (H : Hp) (m' : M) (z : D) (Q : VK) : Prop :=
  ∀ ph' H' u, Sx ph H ph' H' → Wd K Z ph' m' H' → RepV K Z ph' H' u z → Q u H'
def NP (K : PySem.W.Frag) (Z : Addr → Prop) (ph : List Addr) (H : Hp) (m' : M) (ds : List D) (Q : VK) : Prop :=
  ∀ ph' H' p vs, H p = none → H' p = some (.lst vs) → p ∉ ph' → Sx ph H ph' H' → Wd K (Zp Z p) ph' m' H' → RepVs K (Zp Z p) ph' H' vs ds → Q (.ref p) H'
section
variable {K : PySem.W.Frag} {Z : Addr → Prop} {ph ph' : List Addr} {H H' : Hp} {m m' : M} {v : V} {d z : D} {vs : List V} {ds : List D} {σ : L2.St} {env : Env} {Q : VK}
theorem Wd.nz (w : Wd K Z ph m H) {p : Addr} (h : H p = none) : ¬ Z p := fun q => by
  obtain ⟨o, e⟩ := w.zin p q
  rw [h] at e; cases e
theorem Wd.np (w : Wd K Z ph m H) {p : Addr} (h : H p = none) : p ∉ ph := fun q => by
  obtain ⟨o, e⟩ := w.lst q
  rw [h] at e; cases e
theorem PV.np (w : Wd K Z ph m H) (q : PV K Z ph H m' (.lst ds) Q) : NP K Z ph H m' ds Q := fun ph' H' p vs h1 h2 h3 s w' r =>
  q ph' H' (.ref p) s w'.unz (.lst h2 h3 (w.nz h1) r.unz)
/-- a new list is laid -/
theorem NP.upd (w : Wd K Z ph m H) {p : Addr} (h : H p = none) (r : RepVs K Z ph H vs ds) (q : NP K Z ph H m ds Q) : Q (.ref p) (L2.upd H p (.lst vs)) := by
  have s : Sx ph H ph (L2.upd H p (.lst vs)) := Sx.upd h
  refine q ph _ p vs h upd_same (w.np h) s ?_ ((r.zp h).mono s)
  have w' := w.new (o := .lst vs) h
  refine ⟨w'.len, w'.nd, fun l xs e => ?_, fun a ha => ?_⟩
  · obtain ⟨a, us, e1, e2, r⟩ := w.obj l xs e
    exact ⟨a, us, e1, by rw [upd_ne (ne_of_none e2 h)]; exact e2, (r.zp h).mono s⟩
  · rcases ha with rfl | ha
    · exact ⟨_, upd_same⟩
    · exact w'.zin a ha
theorem PV.tup (w : Wd K Z ph m H) {p : Addr} (h : H p = none) (r : RepVs K Z ph H vs ds) (q : PV K Z ph H m (.tup ds) Q) : Q (.ref p) (L2.upd H p (.tup vs)) :=
  q ph _ (.ref p) (Sx.upd h) (w.new h) (.tup (SqT.of upd_same) (r.mono (Sx.upd h)))
theorem PV.here (w : Wd K Z ph m H) (r : RepV K Z ph H v z) (q : PV K Z ph H m z Q) : Q v H := q ph H v Sx.refl w r
/-- what is read as a list -/
theorem rd_lst (w : Wd K Z ph m H) (r : RepV K Z ph H v d) (h : deref m d = .lst ds) : ∃ a vs, v = .ref a ∧ H a = some (.lst vs) ∧ RepVs K Z ph H vs ds := by
  cases r with
  | lst h1 n z r => simp only [deref] at h; cases h; exact ⟨_, _, rfl, h1, r⟩
  | @ref a l h1 =>
    simp only [deref] at h
    split at h
    · rename_i xs e
      cases h
      obtain ⟨vs, h2, r⟩ := w.at e h1
      exact ⟨a, vs, rfl, h2, r⟩
    · cases h
  | _ => simp [deref] at h
theorem rd_tup (r : RepV K Z ph H v d) (h : deref m d = .tup ds) : ∃ a vs, v = .ref a ∧ SqT K H a vs ∧ RepVs K Z ph H vs ds := by
  cases r with
  | tup h1 r => simp only [deref] at h; cases h; exact ⟨_, _, rfl, h1, r⟩
  | ref h1 =>
    simp only [deref] at h
    split at h <;> cases h
  | _ => simp [deref] at h
theorem rd_frz (r : RepV K Z ph H v d) (h : deref m d = .frz ds) : ∃ a vs, v = .ref a ∧ FrzL K H a vs ∧ RepVs K Z ph H vs ds := by
  cases r with
  | frz h1 r => simp only [deref] at h; cases h; exact ⟨_, _, rfl, h1, r⟩
  | ref h1 =>
    simp only [deref] at h
    split at h <;> cases h
  | _ => simp [deref] at h
theorem rd_str {x : Str} (r : RepV K Z ph H v d) (h : deref m d = .str x) : v = .str x := by
  cases r with
  | str y => simp only [deref] at h; cases h; rfl
  | ref h1 =>
    simp only [deref] at h
    split at h <;> cases h
  | _ => simp [deref] at h
end

/-! ## operators -/
def rG (K : PySem.W.Frag) (g : M → D → D → Option D) : R2 := fun v w H Q => ∃ Z ph m x y z, Wd K Z ph m H ∧ RepV K Z ph H v x ∧ RepV K Z ph H w y ∧ g m x y = some z ∧ PV K Z ph H m z Q
def rGN (K : PySem.W.Frag) (g : M → D → D → Option D) : R2 := fun v w H Q => ∃ Z ph m x y ds, Wd K Z ph m H ∧ RepV K Z ph H v x ∧ RepV K Z ph H w y ∧ g m x y = some (.lst ds) ∧ NP K Z ph H m ds Q
section
variable {X : Cx}
theorem or_addN : OpR X (binaryOp .Add) (rGN X.K addD) := by
  intro pins s σ H v w u1 u2 Q I r1 r2 h
  obtain ⟨Z, ph, m, x, y, ds, wd, rx, ry, hz, q⟩ := h
  unfold addD at hz
  split at hz
  · cases hz
  · split at hz <;> cases hz
  · split at hz <;> cases hz
  · split at hz
    · rename_i a b ea eb
      split at hz
      · rename_i hl
        cases hz
        obtain ⟨p, vs, rfl, h1, q1⟩ := rd_lst wd rx ea
        obtain ⟨p', ws, rfl, h2, q2⟩ := rd_lst wd ry eb
        refine op_cat pins s σ H _ _ _ _ Q I r1 r2 ⟨p, p', vs, ws, rfl, rfl, h1, h2, ?_, fun l hl => q.upd wd hl (q1.append q2)⟩
        rw [q1.len, q2.len, ← lim_eq]; exact hl
      · cases hz
    · cases hz
theorem or_add : OpR X (binaryOp .Add) (rG X.K addD) := by
  intro pins s σ H v w u1 u2 Q I r1 r2 h
  obtain ⟨Z, ph, m, x, y, z, wd, rx, ry, hz, q⟩ := h
  have hz0 := hz
  unfold addD at hz
  split at hz
  · cases hz; cases rx; cases ry
    exact op_add pins s σ H _ _ _ _ Q I r1 r2 ⟨_, _, rfl, rfl, q.here wd (.int _)⟩
  · split at hz
    · rename_i hl
      cases hz; cases rx; cases ry
      exact op_add_str pins s σ H _ _ _ _ Q I r1 r2 ⟨_, _, rfl, rfl, by rw [← lim_eq]; exact hl, q.here wd (.str _)⟩
    · cases hz
  · split at hz
    · rename_i hl
      cases hz
      cases rx with
      | tup h1 q1 =>
        cases ry with
        | tup h2 q2 =>
          refine op_catA pins s σ H _ _ _ _ Q I r1 r2 ⟨_, _, _, _, rfl, rfl, h1, h2, by rw [q1.len, q2.len, ← lim_eq]; exact hl, fun e => ?_, fun _ e => ?_, fun _ _ p hp => q.tup wd hp (q1.append q2)⟩
          · subst e
            cases q1
            exact q.here wd (.tup h2 q2)
          · subst e
            cases q2
            rw [List.append_nil] at q
            exact q.here wd (.tup h1 q1)
    · cases hz
  · split at hz
    · rename_i a b ea eb
      split at hz
      · rename_i hl
        cases hz
        exact or_addN pins s σ H v w u1 u2 Q I r1 r2 ⟨Z, ph, m, _, _, _, wd, rx, ry, hz0, q.np wd⟩
      · cases hz
    · cases hz
theorem mulOk_ok {i j : Int} (h : mulOk i j = true) : CMul i j ∨ CMulW i j := by
  simp only [mulOk, small, Bool.or_eq_true, Bool.and_eq_true, decide_eq_true_eq] at h
  rcases h with (h | h) | h
  · exact .inl (.inl h)
  · exact .inl (.inr h)
  · exact .inr h
theorem mulT_run {pins : List (Addr × Obj)} {s : Shared} {σ : L2.St} {H : Hp} {v w : V} {u1 u2 : Value} {Q : VK} {Z : Addr → Prop} {ph : List Addr} {m : M} {x : D} {a : List D} {k : Int} (I : Inv X pins σ H s) (r1 : RelV v u1) (r2 : RelV w u2) (wd : Wd X.K Z ph m H) (rx : RepV X.K Z ph H v x) (ea : deref m x = .tup a) (ry : RepV X.K Z ph H w (.int k)) (hl : (-1000 ≤ k ∧ k ≤ 1000) ∧ a.length ≤ 1000) (q : PV X.K Z ph H m (.tup (List.replicate k.toNat a).flatten) Q) :
    wpAny (model X.prog X.w) X.A (binaryOp .Mult u1 u2) (EP X pins σ Q) X.xe s := by
  cases ry
  obtain ⟨p, vs, rfl, h1, q1⟩ := rd_tup rx ea
  by_cases c1 : vs = [] ∨ k = 1
  · refine op_repS pins s σ H _ _ _ _ Q I r1 r2 ⟨p, k, vs, rfl, rfl, h1, by omega, by omega, c1, q.here wd (.tup h1 ?_)⟩
    rcases c1 with rfl | rfl
    · cases q1; simpa using RepVs.nil
    · simpa using q1
  · have n1 : vs ≠ [] := fun e => c1 (.inl e)
    have n2 : k ≠ 1 := fun e => c1 (.inr e)
    by_cases c2 : k ≤ 0
    · refine op_repZ pins s σ H _ _ _ _ Q I r1 r2 ⟨p, k, vs, rfl, rfl, h1, by omega, c2, n1, fun l hl => q.tup wd hl ?_⟩
      rw [show k.toNat = 0 by omega]
      exact .nil
    · exact op_repT pins s σ H _ _ _ _ Q I r1 r2 ⟨p, k, vs, rfl, rfl, h1, n1, by omega, by omega, by rw [q1.len]; exact hl.2, fun l hl => q.tup wd hl (q1.rep _)⟩
theorem or_mulN : OpR X (binaryOp .Mult) (rGN X.K mulD) := by
  intro pins s σ H v w u1 u2 Q I r1 r2 h
  obtain ⟨Z, ph, m, x, y, ds, wd, rx, ry, hz, q⟩ := h
  unfold mulD at hz
  split at hz
  · split at hz <;> cases hz
  · split at hz
    · rename_i a ea
      split at hz
      · rename_i hl
        simp only [Bool.and_eq_true, decide_eq_true_eq] at hl
        cases hz
        cases ry
        obtain ⟨p, vs, rfl, h1, q1⟩ := rd_lst wd rx ea
        exact op_rep pins s σ H _ _ _ _ Q I r1 r2 ⟨p, _, vs, rfl, rfl, h1, hl.1.1.2, hl.1.2, by rw [q1.len, ← lim_eq]; exact hl.2, fun l hl => q.upd wd hl (q1.rep _)⟩
      · cases hz
    · split at hz <;> cases hz
    · cases hz
  · cases hz
theorem or_mul : OpR X (binaryOp .Mult) (rG X.K mulD) := by
  intro pins s σ H v w u1 u2 Q I r1 r2 h
  obtain ⟨Z, ph, m, x, y, z, wd, rx, ry, hz, q⟩ := h
  have hz0 := hz
  unfold mulD at hz
  split at hz
  · split at hz
    · rename_i hm
      cases hz; cases rx; cases ry
      rcases mulOk_ok hm with hm | hm
      · exact op_mul pins s σ H _ _ _ _ Q I r1 r2 ⟨_, _, rfl, rfl, hm, q.here wd (.int _)⟩
      · exact op_mulW pins s σ H _ _ _ _ Q I r1 r2 ⟨_, _, rfl, rfl, hm, q.here wd (.int _)⟩
    · cases hz
  · split at hz
    · split at hz
      · cases hz
        exact or_mulN pins s σ H v w u1 u2 Q I r1 r2 ⟨Z, ph, m, _, _, _, wd, rx, ry, hz0, q.np wd⟩
      · cases hz
    · rename_i a ea
      split at hz
      · rename_i hl
        simp only [Bool.and_eq_true, decide_eq_true_eq] at hl
        cases hz
        exact mulT_run I r1 r2 wd rx ea ry hl q
      · cases hz
    · cases hz
  · cases hz
def bopB : BOp → Operator → Bool
  | .add, .Add => true
  | .sub, .Sub => true
  | .mul, .Mult => true
  | .fdiv, .FloorDiv => true
  | .mod, .Mod => true
  | .pow, .Pow => true
  | _, _ => false
theorem or_bop {op : BOp} {o : Operator} (h : bopB op o = true) : OpR X (binaryOp o) (rG X.K fun m x y => bopD m op x y) := by
  cases op <;> cases o <;> first | (exact absurd h (by decide)) | skip
  · exact or_add
  · intro pins s σ H v w u1 u2 Q I r1 r2 h
    obtain ⟨Z, ph, m, x, y, z, wd, rx, ry, hz, q⟩ := h
    simp only [bopD] at hz
    unfold subD at hz
    split at hz <;> cases hz
    cases rx; cases ry
    exact op_sub pins s σ H _ _ _ _ Q I r1 r2 ⟨_, _, rfl, rfl, q.here wd (.int _)⟩
  · exact or_mul
  · intro pins s σ H v w u1 u2 Q I r1 r2 h
    obtain ⟨Z, ph, m, x, y, z, wd, rx, ry, hz, q⟩ := h
    simp only [bopD] at hz
    unfold fdivD at hz
    split at hz <;> try cases hz
    split at hz <;> cases hz
    rename_i hd
    simp only [divOk, Bool.and_eq_true, decide_eq_true_eq] at hd
    cases rx; cases ry
    exact op_fdivW pins s σ H _ _ _ _ Q I r1 r2 ⟨_, _, rfl, rfl, hd, q.here wd (.int _)⟩
  · intro pins s σ H v w u1 u2 Q I r1 r2 h
    obtain ⟨Z, ph, m, x, y, z, wd, rx, ry, hz, q⟩ := h
    simp only [bopD] at hz
    unfold modD at hz
    split at hz <;> try cases hz
    split at hz <;> cases hz
    rename_i hd
    cases rx; cases ry
    exact op_mod pins s σ H _ _ _ _ Q I r1 r2 ⟨_, _, rfl, rfl, hd, q.here wd (.int _)⟩
  · intro pins s σ H v w u1 u2 Q I r1 r2 h
    obtain ⟨Z, ph, m, x, y, z, wd, rx, ry, hz, q⟩ := h
    simp only [bopD] at hz
    unfold powD at hz
    split at hz <;> try cases hz
    split at hz
    · cases hz
      rename_i hd
      simp only [powOk, Bool.and_eq_true, decide_eq_true_eq] at hd
      cases rx; cases ry
      exact op_pow pins s σ H _ _ _ _ Q I r1 r2 ⟨_, _, rfl, rfl, ⟨hd.1.1, hd.1.2, hd.2⟩, q.here wd (.int _)⟩
    · split at hz <;> cases hz
      rename_i hd
      simp only [powOk2, Bool.and_eq_true, decide_eq_true_eq] at hd
      cases rx; cases ry
      exact op_powW pins s σ H _ _ _ _ Q I r1 r2 ⟨_, _, rfl, rfl, ⟨hd.1.1, hd.1.2, hd.2⟩, q.here wd (.int _)⟩

/-! ### comparisons -/
end
section
variable {K : PySem.W.Frag} {Z : Addr → Prop} {ph : List Addr} {H : Hp} {m : M}
mutual
theorem RepV.dp : ∀ {v d}, pure_ d = true → RepV K Z ph H v d → Dp K H v (toP d)
  | _, _, _, .non => .non
  | _, _, _, .bl b => .bl b
  | _, _, _, .int i => .int i
  | _, _, _, .str x => .str x
  | _, _, q, .tup h r => .tup h (RepVs.dp q r)
  | _, _, q, .lst h n z r => .lst (SqL.of h) (RepVs.dp q r)
  | _, _, q, .frz h r => by simp [pure_] at q
  | _, _, q, .ref h => by simp [pure_] at q
theorem RepVs.dp : ∀ {vs ds}, pures ds = true → RepVs K Z ph H vs ds → DpAll K H vs (toPs ds)
  | _, _, _, .nil => .nil
  | _, _, q, .cons h r => by
    simp only [pures, Bool.and_eq_true] at q
    exact .cons (RepV.dp q.1 h) (RepVs.dp q.2 r)
end
theorem dp_deref {v : V} {d : D} (w : Wd K Z ph m H) (r : RepV K Z ph H v d) (hp : pure_ (deref m d) = true) : Dp K H v (toP (deref m d)) := by
  cases r with
  | @ref a l h =>
    simp only [deref] at hp ⊢
    split at hp
    · rename_i xs e
      obtain ⟨vs, h2, r⟩ := w.at e h
      exact .lst (SqL.of h2) (RepVs.dp hp r)
    · simp [pure_] at hp
  | frz h r => simp [deref, pure_] at hp
  | non => exact .non
  | bl b => exact .bl b
  | int i => exact .int i
  | str x => exact .str x
  | tup h r => exact RepV.dp (ph := ph) (Z := Z) hp (.tup h r)
  | lst h n z r => exact RepV.dp hp (.lst h n z r)
end
section
variable {X : Cx}
def rGC (K : PySem.W.Frag) (g : M → D → D → Option Bool) : R2 := fun v w H Q => ∃ Z ph m x y z, Wd K Z ph m H ∧ RepV K Z ph H v x ∧ RepV K Z ph H w y ∧ g m x y = some z ∧ Q (.bl z) H
theorem or_eq (hu : X.A.units + 64 < cLine) : OpR X (compareOp .Eq) (rGC X.K eqD) := by
  intro pins s σ H v w u1 u2 Q I r1 r2 h
  obtain ⟨Z, ph, m, x, y, z, wd, rx, ry, hz, q⟩ := h
  unfold eqD at hz
  split at hz
  · cases hz; cases rx; cases ry
    refine op_eq pins s σ H _ _ _ _ Q I r1 r2 ⟨rfl, ?_⟩
    simpa using q
  · cases hz; cases rx; cases ry
    refine op_eq pins s σ H _ _ _ _ Q I r1 r2 ⟨rfl, ?_⟩
    simpa using q
  · cases hz; cases rx; cases ry
    refine op_eq pins s σ H _ _ _ _ Q I r1 r2 ⟨rfl, ?_⟩
    rw [L2.dec_bl]; exact q
  · split at hz
    · rename_i hk
      cases hz
      simp only [eqOk, Bool.and_eq_true, decide_eq_true_eq] at hk
      obtain ⟨⟨⟨⟨k1, k2⟩, k3⟩, k4⟩, k5⟩ := hk
      obtain ⟨as, a1⟩ := Dp.reads I _ _ _ (dp_deref wd rx k1) r1
      obtain ⟨bs, b1⟩ := Dp.reads I _ _ _ (dp_deref wd ry k2) r2
      exact SeqAt.compareEq_reads a1 b1 k3 k4 (by omega) ⟨.bl _, H, I, rfl, q⟩
    · cases hz
theorem or_ne (hu : X.A.units + 64 < cLine) : OpR X (compareOp .NotEq) (rGC X.K fun m x y => (eqD m x y).map (!·)) := by
  intro pins s σ H v w u1 u2 Q I r1 r2 h
  obtain ⟨Z, ph, m, x, y, z, wd, rx, ry, hz, q⟩ := h
  obtain ⟨k, hk, rfl⟩ := Option.map_eq_some_iff.mp hz
  unfold eqD at hk
  split at hk
  · cases hk; cases rx; cases ry
    refine op_ne pins s σ H _ _ _ _ Q I r1 r2 ⟨rfl, ?_⟩
    simpa using q
  · cases hk; cases rx; cases ry
    refine op_ne pins s σ H _ _ _ _ Q I r1 r2 ⟨rfl, ?_⟩
    simpa using q
  · cases hk; cases rx; cases ry
    refine op_ne pins s σ H _ _ _ _ Q I r1 r2 ⟨rfl, ?_⟩
    rw [L2.dec_bl]; exact q
  · split at hk
    · rename_i hk'
      cases hk
      simp only [eqOk, Bool.and_eq_true, decide_eq_true_eq] at hk'
      obtain ⟨⟨⟨⟨k1, k2⟩, k3⟩, k4⟩, k5⟩ := hk'
      obtain ⟨as, a1⟩ := Dp.reads I _ _ _ (dp_deref wd rx k1) r1
      obtain ⟨bs, b1⟩ := Dp.reads I _ _ _ (dp_deref wd ry k2) r2
      exact SeqAt.compareNe_reads a1 b1 k3 k4 (by omega) ⟨.bl _, H, I, rfl, q⟩
    · cases hk
theorem flat_rep {K : PySem.W.Frag} {Z : Addr → Prop} {ph : List Addr} {H : Hp} {v : V} {d : D} (r : RepV K Z ph H v d) (h : flatD d = true) : flatV v = true := by
  cases r <;> first | rfl | simp [flatD] at h
theorem eqF_rep {K : PySem.W.Frag} {Z : Addr → Prop} {ph : List Addr} {H : Hp} {v w : V} {d e : D} (r : RepV K Z ph H v d) (h : flatD d = true) (q : RepV K Z ph H w e) (h' : flatD e = true) : eqV v w = eqF d e := by
  cases r <;> cases q <;> first | rfl | simp [flatD] at h h'
theorem flats_rep {K : PySem.W.Frag} {Z : Addr → Prop} {ph : List Addr} {H : Hp} {vs : List V} {ds : List D} (r : RepVs K Z ph H vs ds) (h : ds.all flatD = true) : vs.all flatV = true := by
  induction ds generalizing vs with
  | nil => cases r; rfl
  | cons d ds ih =>
    cases r with
    | cons h0 r =>
      simp only [List.all_cons, Bool.and_eq_true] at h ⊢
      exact ⟨flat_rep h0 h.1, ih r h.2⟩
theorem inV_rep {K : PySem.W.Frag} {Z : Addr → Prop} {ph : List Addr} {H : Hp} {v : V} {d : D} {vs : List V} {ds : List D} (r : RepVs K Z ph H vs ds) (h : ds.all flatD = true) (q : RepV K Z ph H v d) (hd : flatD d = true) : inV v vs = ds.any fun z => eqF z d := by
  induction ds generalizing vs with
  | nil => cases r; rfl
  | cons d0 ds ih =>
    cases r with
    | cons h0 r =>
      simp only [List.all_cons, Bool.and_eq_true] at h
      have := ih r h.2
      unfold inV at this ⊢
      rw [List.any_cons, List.any_cons, this, eqF_rep h0 h.1 q hd]
theorem rd_seq {K : PySem.W.Frag} {Z : Addr → Prop} {ph : List Addr} {H : Hp} {m : M} {v : V} {d : D} {ds : List D} (w : Wd K Z ph m H) (r : RepV K Z ph H v d) (h : seqOf m d = some ds) : ∃ a vs, v = .ref a ∧ (SqL K H a vs ∨ SqT K H a vs) ∧ RepVs K Z ph H vs ds := by
  unfold seqOf at h
  split at h
  · rename_i xs e
    cases h
    obtain ⟨a, vs, e1, e2, q⟩ := rd_tup r e
    exact ⟨a, vs, e1, .inr e2, q⟩
  · rename_i xs e
    cases h
    obtain ⟨a, vs, e1, e2, q⟩ := rd_lst w r e
    exact ⟨a, vs, e1, .inl (SqL.of e2), q⟩
  · cases h
theorem or_in : OpR X (compareOp .In) (rGC X.K inD) := by
  intro pins s σ H v w u1 u2 Q I r1 r2 h
  obtain ⟨Z, ph, m, x, y, z, wd, rx, ry, hz, q⟩ := h
  unfold inD at hz
  split at hz
  · rename_i ys e
    split at hz
    · rename_i hk
      cases hz
      simp only [Bool.and_eq_true] at hk
      obtain ⟨a, vs, rfl, hq, rs⟩ := rd_seq wd ry e
      refine op_in_seq pins s σ H _ _ _ _ Q I r1 r2 ⟨a, vs, rfl, hq, flat_rep rx hk.1, flats_rep rs hk.2, ?_⟩
      rw [inV_rep rs hk.2 rx hk.1]
      exact q
    · cases hz
  · cases hz
theorem or_notin : OpR X (compareOp .NotIn) (rGC X.K fun m x y => (inD m x y).map (!·)) := by
  intro pins s σ H v w u1 u2 Q I r1 r2 h
  obtain ⟨Z, ph, m, x, y, z, wd, rx, ry, hz, q⟩ := h
  obtain ⟨k, hk, rfl⟩ := Option.map_eq_some_iff.mp hz
  unfold inD at hk
  split at hk
  · rename_i ys e
    split at hk
    · rename_i hk'
      cases hk
      simp only [Bool.and_eq_true] at hk'
      obtain ⟨a, vs, rfl, hq, rs⟩ := rd_seq wd ry e
      refine op_notIn_seq pins s σ H _ _ _ _ Q I r1 r2 ⟨a, vs, rfl, hq, flat_rep rx hk'.1, flats_rep rs hk'.2, ?_⟩
      rw [inV_rep rs hk'.2 rx hk'.1]
      exact q
    · cases hk
  · cases hk
def copB : COp → CmpOp → Bool
  | .eq, .Eq => true
  | .ne, .NotEq => true
  | .lt, .Lt => true
  | .le, .LtE => true
  | .gt, .Gt => true
  | .ge, .GtE => true
  | .isin, .In => true
  | .notin, .NotIn => true
  | _, _ => false
theorem or_cop (hu : X.A.units + 64 < cLine) {op : COp} {o : CmpOp} (h : copB op o = true) : OpR X (compareOp o) (rGC X.K fun m x y => cmpD m op x y) := by
  cases op <;> cases o <;> first | (exact absurd h (by decide)) | skip
  · exact or_eq hu
  · exact or_ne hu
  · intro pins s σ H v w u1 u2 Q I r1 r2 h
    obtain ⟨Z, ph, m, x, y, z, wd, rx, ry, hz, q⟩ := h
    simp only [cmpD] at hz
    unfold ordD at hz
    split at hz <;> cases hz
    cases rx; cases ry
    exact op_lt pins s σ H _ _ _ _ Q I r1 r2 ⟨_, _, rfl, rfl, q⟩
  · intro pins s σ H v w u1 u2 Q I r1 r2 h
    obtain ⟨Z, ph, m, x, y, z, wd, rx, ry, hz, q⟩ := h
    simp only [cmpD] at hz
    unfold ordD at hz
    split at hz <;> cases hz
    cases rx; cases ry
    exact op_le pins s σ H _ _ _ _ Q I r1 r2 ⟨_, _, rfl, rfl, q⟩
  · intro pins s σ H v w u1 u2 Q I r1 r2 h
    obtain ⟨Z, ph, m, x, y, z, wd, rx, ry, hz, q⟩ := h
    simp only [cmpD] at hz
    unfold ordD at hz
    split at hz <;> cases hz
    cases rx; cases ry
    exact op_gt pins s σ H _ _ _ _ Q I r1 r2 ⟨_, _, rfl, rfl, q⟩
  · intro pins s σ H v w u1 u2 Q I r1 r2 h
    obtain ⟨Z, ph, m, x, y, z, wd, rx, ry, hz, q⟩ := h
    simp only [cmpD] at hz
    unfold ordD at hz
    split at hz <;> cases hz
    cases rx; cases ry
    exact op_ge pins s σ H _ _ _ _ Q I r1 r2 ⟨_, _, rfl, rfl, q⟩
  · exact or_in
  · exact or_notin
end
end Pv

namespace Pv
open PySem PySem.Spec PyProof.Rows L2
/-! ## calls that count one a level (the kit's Room counts three: no more than 231 levels) -/
structure Rm (n : Nat) (A : Around) : Prop where
  hd : A.handled = none
  dp : A.depth + n + 5 < recursionLimit
  un : A.units + 4 * n + 200 < cLine
theorem Rm.deeper {n : Nat} {A : Around} (r : Rm (n + 1) A) (env : PySem.Env) : Rm n (A.deeper env) :=
  ⟨r.hd, by have := r.dp; show A.depth + 1 + n + 5 < _; omega, by have := r.un; show A.units + 3 + 4 * n + 200 < _; omega⟩
theorem Rm.depth {n : Nat} {A : Around} (r : Rm n A) : A.depth < recursionLimit := by have := r.dp; omega
theorem Rm.units {n : Nat} {A : Around} (r : Rm n A) : A.units + 64 < cLine := by have := r.un; omega
theorem Rm.of {n k : Nat} {A : Around} (r : Room k A) (h : n ≤ 3 * k) : Rm n A := ⟨r.hd, by have := r.dp; omega, by have := r.un; omega⟩
structure FnK (P : Program) (w : World) (K : PySem.W.Frag) (mg : Str → Option Value) (base : Heap) (n : Nat) (f : Addr) (fd : FuncData) (ps : List Str) (sp : Sp) : Prop where
  len : ∀ vs H Q E, sp vs H Q E → vs.length = ps.length
  run : ∀ (A : Around) (outer : List PySem.Env) (s : Shared) (H : Hp) (args : Args) (us : List Value) (vs : List V) (Q : VK) (E : XK), Rm n A → Env0 P w K mg base A outer s H → BindsTo s fd args (ps.zip us) → Vals vs us → sp vs H Q E →
    codeAny (model P w) A (.call (.ref f) args) (CR CX0 outer P w H s Q E) s
theorem FnK.ok {P : Program} {w : World} {K : PySem.W.Frag} {mg : Str → Option Value} {base : Heap} {n k : Nat} {f : Addr} {fd : FuncData} {ps : List Str} {sp : Sp} (F : FnK P w K mg base n f fd ps sp) (h : n ≤ 3 * k) : FnOk P w K mg base CX0 k f fd ps sp :=
  ⟨F.len, fun A outer s H args us vs Q E hr => F.run A outer s H args us vs Q E (Rm.of hr h)⟩
section
variable {X : Cx} {n : Nat} {f : Addr} {fd : FuncData} {ps : List Str} {sp : Sp} {x : Str} {p pos : Pos} {e : Expr} {es : List Expr} {t : TA}
theorem k_run {pins : List (Addr × Obj)} {σ : L2.St} {H : Hp} {s : Shared} {Q : VK} {us : List Value} {vs : List V} (F : FnK X.prog X.w X.K X.mg X.base n f fd ps sp) (hr : Rm n X.A) (hb : Binds X.K fd ps [])
    (I : Inv X pins σ H s) (r : Vals vs us) (h : sp vs H Q E0) : wpAny (model X.prog X.w) X.A (call (.ref f) us) (EP X pins σ Q) X.xe s := by
  have hl : us.length = ps.length := by rw [← r.length]; exact F.len _ _ _ _ h
  have b := hb s us I.kIn (by rw [List.append_nil]; exact hl)
  rw [List.append_nil] at b
  refine wpAny_call (codeAny_mono (F.run X.A X.stack s H ⟨us, []⟩ us vs Q E0 hr I.env0 b r h) fun r s' hq => ?_)
  cases r with
  | error e => exact False.elim hq
  | ok fl =>
    cases fl with
    | ret u => exact I.after hq
    | next => exact False.elim hq
    | brk => exact False.elim hq
    | cont => exact False.elim hq
theorem k_call (F : FnK X.prog X.w X.K X.mg X.base n f fd ps sp) (hr : Rm n X.A) (hg : Gl X x) (hm : X.mg x = some (.ref f)) (hk : PySem.W.keepIn X.K (.ref f) = true) (hb : Binds X.K fd ps [])
    (ha : PA X (e :: es) t) (hdb : (x == ("__debug__" : Str)) = false) (he : starEach (e :: es) X.env = (false, eval e X.env) :: starEach es X.env) (hpl : (backTo pos (starEach es X.env)).any (·.1) = false) :
    PE X (.Call (.Name x p) (e :: es) [] pos) (tCall sp [] E0 t) := by
  refine ⟨fun pins s σ H Q I h => ?_⟩
  refine wpAny_Call_Name_kw (ld_glob I hg hm ?_ hdb)
  refine PySem.W.callWith_K (h₀ := X.base) I.ok.mod.kin hk (thn (ha.run pos pins s σ H _ I h) fun us s1 ⟨vs, H1, I1, r, q⟩ => ⟨I1.kIn, ?_⟩) he hpl
  have q : sp (vs ++ []) H1 Q E0 := q
  rw [List.append_nil] at q
  exact k_run F hr hb I1 r q
theorem k_call0 (F : FnK X.prog X.w X.K X.mg X.base n f fd ps sp) (hr : Rm n X.A) (hg : Gl X x) (hm : X.mg x = some (.ref f)) (hk : PySem.W.keepIn X.K (.ref f) = true) (hb : Binds X.K fd ps [])
    (hdb : (x == ("__debug__" : Str)) = false) : PE X (.Call (.Name x p) [] [] pos) (tCall sp [] E0 tNil) := by
  refine ⟨fun pins s σ H Q I h => ?_⟩
  refine wpAny_Call_Name_kw (ld_glob I hg hm ?_ hdb)
  exact PySem.W.callWith_K0 I.kIn hk (k_run (us := []) F hr hb I .nil h)
end
theorem k_fn {P : Program} {w : World} {K : PySem.W.Frag} {mg : Str → Option Value} {base : Heap} {x qual : Str} {st : Stmt} {f : Addr} {fd : FuncData} {N ps : List Str} {n : Nat} {sp : Sp} (F : Fun K x qual st f fd) (S : FnScope N ps (defScope st)) (len : ∀ vs H Q E, sp vs H Q E → vs.length = ps.length)
    (hbody : ∀ (cdv : Value) (A : Around) (outer : List PySem.Env) (s : Shared) (H : Hp) (vs : List V) (Q : VK) (E : XK), Rm n (A.deeper (envOfC qual (defScope st) s.heap.objs.size f cdv)) → sp vs H Q E →
      ∃ t, PSs (cxOf CX0 P w K mg base N qual (defScope st) f cdv A outer s H E).nox (defBody st) t ∧ t { nx := fun _ H' => Q .non H', rt := Q } (start N vs) H) : FnK P w K mg base (n + 1) f fd ps sp := by
  obtain ⟨oc, od, kV, doc, pm, an, cdv, ct, osl, rfl, lk, hcd⟩ := F.ex
  refine ⟨len, fun A outer s H args us vs Q E hr e0 hb r hsp => ?_⟩
  have hl := len _ _ _ _ hsp
  have KX : K.In s.heap := e0.mod.kin.keeps fun b o e => (e0.bs b o e).1
  have nl : s.heap.NoLimit := e0.mod.nolimit.keeps fun b o e => (e0.bs b o e).1
  have hkind : ∀ y ∈ ps.zip us, (defScope st).names.lookup y.1 = some .local ∨ ((defScope st).names.lookup y.1 = some .cell ∧ ((cellsFrom (s.heap.objs.size + 1) (defScope st).names []).lookup y.1).isSome = true) := fun ⟨a, v⟩ hy => by
    rcases S.par a (List.of_mem_zip hy).1 with q | q
    · exact .inl q
    · exact .inr ⟨q, PySem.W.cellsFrom_some _ _ _ (.inl q)⟩
  refine codeAny_call_function hr.depth (KX _ _ lk) rfl S.co S.gen rfl (PySem.W.codeRec_of KX hcd) (hb _ _ _ _ ?_)
  refine wpAny_newFunctionEnv_cells S.kind hkind fun env he s1 y => ?_
  subst he
  refine ⟨nl.keeps y.toInCall.keep, codeAny_func ?_⟩
  obtain ⟨t, ht, hq⟩ := hbody cdv A outer s H vs Q E (hr.deeper _) hsp
  have I : Inv (cxOf CX0 P w K mg base N qual (defScope st) f cdv A outer s H E) [] (start N vs) H s1 := inv_start S hr.hd e0 hl r y
  refine wpAny_mono (ht.nox.run [] s1 (start N vs) H _ I hq) (fun fl s' hs => ?_) fun e s' hs => hs
  cases fl with
  | ret u =>
    obtain ⟨v, σ', H', J, rv, q⟩ := hs
    exact ⟨v, H', J.os, J.bare, J.base, J.hok, rv, q⟩
  | next =>
    obtain ⟨σ', H', J, q⟩ := hs
    exact ⟨V.non, H', J.os, J.bare, J.base, J.hok, rfl, q⟩
  | brk =>
    obtain ⟨_, _, _, q⟩ := hs
    exact False.elim q
  | cont =>
    obtain ⟨_, _, _, q⟩ := hs
    exact False.elim q
end Pv

namespace Pv
open PySem L2

/-! ## readings -/
abbrev RE := Env → M → Option (D × M)
abbrev RA := Env → M → Option (List D × M)
def tEv (K : PySem.W.Frag) (r : RE) : TE := fun σ H Q => ∃ Z ph env m, RepE K Z ph H σ env ∧ Wd K Z ph m H ∧ ∃ d m', r env m = some (d, m') ∧ PV K Z ph H m' d Q
def tEvN (K : PySem.W.Frag) (r : RE) : TE := fun σ H Q => ∃ Z ph env m, RepE K Z ph H σ env ∧ Wd K Z ph m H ∧ ∃ ds m', r env m = some (.lst ds, m') ∧ NP K Z ph H m' ds Q
def tEvT (K : PySem.W.Frag) (r : RE) : TT := fun σ H Q => ∃ Z ph env m, RepE K Z ph H σ env ∧ Wd K Z ph m H ∧ ∃ b m', r env m = some (.bl b, m') ∧ ∀ ph' H', Sx ph H ph' H' → Wd K Z ph' m' H' → Q b H'
def tEvA (K : PySem.W.Frag) (r : RA) : TA := fun σ H Q => ∃ Z ph env m, RepE K Z ph H σ env ∧ Wd K Z ph m H ∧ ∃ ds m', r env m = some (ds, m') ∧ ∀ ph' H' vs, Sx ph H ph' H' → Wd K Z ph' m' H' → RepVs K Z ph' H' vs ds → Q vs H'

theorem pe_imp {X : Cx} {x : Expr} {t t' : TE} (h : PE X x t) (i : ∀ σ H Q, t' σ H Q → t σ H Q) : PE X x t' := ⟨fun pins s σ H Q I w => h.run pins s σ H Q I (i σ H Q w)⟩
theorem pt_imp {X : Cx} {x : Expr} {t t' : TT} (h : PT X x t) (i : ∀ σ H Q, t' σ H Q → t σ H Q) : PT X x t' := ⟨fun pins s σ H Q I w => h.run pins s σ H Q I (i σ H Q w)⟩
theorem pw_imp {X : Cx} {x : Expr} {t t' : TT} (h : PW X x t) (i : ∀ σ H Q, t' σ H Q → t σ H Q) : PW X x t' := ⟨fun wh pins s σ H Q I w => h.run wh pins s σ H Q I (i σ H Q w)⟩
theorem pa_imp {X : Cx} {x : List Expr} {t t' : TA} (h : PA X x t) (i : ∀ σ H Q, t' σ H Q → t σ H Q) : PA X x t' := ⟨fun pos pins s σ H Q I w => h.run pos pins s σ H Q I (i σ H Q w)⟩
theorem ps_imp {X : Cx} {x : Stmt} {t t' : TS} (h : PS X x t) (i : ∀ D σ H, t' D σ H → t D σ H) : PS X x t' := ⟨fun pins s σ H D I w => h.run pins s σ H D I (i D σ H w)⟩
theorem pss_imp {X : Cx} {x : List Stmt} {t t' : TS} (h : PSs X x t) (i : ∀ D σ H, t' D σ H → t D σ H) : PSs X x t' := ⟨fun pins s σ H D I w => h.run pins s σ H D I (i D σ H w)⟩

section
variable {K : PySem.W.Frag} {Z : Addr → Prop} {ph ph1 : List Addr} {H H1 : Hp} {m m' m1 : M} {d z : D} {ds : List D} {σ : L2.St} {env : Env} {Q : VK} {r : RE} {b : Bool}
theorem PV.after (q : PV K Z ph H m' z Q) (s : Sx ph H ph1 H1) : PV K Z ph1 H1 m' z Q := fun ph' H' u s' w r => q ph' H' u (s.trans s') w r
theorem NP.after (q : NP K Z ph H m' ds Q) (s : Sx ph H ph1 H1) : NP K Z ph1 H1 m' ds Q := fun ph' H' p vs h1 h2 h3 s' w r => q ph' H' p vs (s.free h1) h2 h3 (s.trans s') w r
theorem ev_of (re : RepE K Z ph H σ env) (wd : Wd K Z ph m H) (h : r env m = some (d, m1))
    (q : ∀ ph1 H1 v, Sx ph H ph1 H1 → Wd K Z ph1 m1 H1 → RepE K Z ph1 H1 σ env → RepV K Z ph1 H1 v d → Q v H1) : tEv K r σ H Q :=
  ⟨Z, ph, env, m, re, wd, d, m1, h, fun ph' H' u s w r => q ph' H' u s w (re.mono s) r⟩
theorem evt_of {Q : Bool → Hp → Prop} (re : RepE K Z ph H σ env) (wd : Wd K Z ph m H) (h : r env m = some (.bl b, m1))
    (q : ∀ ph1 H1, Sx ph H ph1 H1 → Wd K Z ph1 m1 H1 → RepE K Z ph1 H1 σ env → Q b H1) : tEvT K r σ H Q :=
  ⟨Z, ph, env, m, re, wd, b, m1, h, fun ph' H' s w => q ph' H' s w (re.mono s)⟩
theorem eva_of {Q : List V → Hp → Prop} {r : RA} (re : RepE K Z ph H σ env) (wd : Wd K Z ph m H) (h : r env m = some (ds, m1))
    (q : ∀ ph1 H1 vs, Sx ph H ph1 H1 → Wd K Z ph1 m1 H1 → RepE K Z ph1 H1 σ env → RepVs K Z ph1 H1 vs ds → Q vs H1) : tEvA K r σ H Q :=
  ⟨Z, ph, env, m, re, wd, ds, m1, h, fun ph' H' u s w r => q ph' H' u s w (re.mono s) r⟩
end

/-! ## the context of a def's body, of a comprehension's block -/
structure Sx_ where
  N : List Str
  sc : Scope
  fb : Str → Bool
structure XOk (X : Cx) (S : Sx_) : Prop where
  n : X.N = S.N
  sc : X.env.scope = S.sc
  fb : X.fn = S.fb
  calm : X.calm = true
  nd : X.N.Nodup
  un : X.A.units + 64 < cLine

/-! ## expressions, node by node -/
section
variable {X : Cx} {x y w : Expr} {pos : Pos} {ra rb rc : RE}
theorem n_var {i : Nat} {s : Str} (hN : X.N[i]? = some s) (hv : Vis X.env.scope s) (hd : (s == ("__debug__" : Str)) = false) (hcd : (s == ("__classdict__" : Str)) = false) :
    PE X (.Name s pos) (tEv X.K fun env m => match env[i]? with | some (some d) => some (d, m) | _ => none) :=
  pe_imp (pe_var hN hv hd hcd) fun σ H Q ⟨Z, ph, env, m, re, wd, d, m', e, q⟩ => by
    simp only at e
    split at e
    · rename_i d' h
      cases e
      obtain ⟨v, h1, r⟩ := re.at_ i d h
      exact ⟨v, h1, q.here wd r⟩
    · cases e
def conP : D → Const → Prop
  | .non, .none => True
  | .bl b, .bool b' => b = b'
  | .int i, .int j => i = j
  | .str x, .str y => x = y
  | _, _ => False
theorem n_con {c : Const} {k : Nat} {d : D} (h : conP d c) : PE X (.Constant c k pos) (tEv X.K fun _ m => some (d, m)) := by
  unfold conP at h
  split at h
  · exact pe_imp pe_non fun σ H Q ⟨Z, ph, env, m, re, wd, d, m', e, q⟩ => by cases e; exact q.here wd .non
  · cases h; exact pe_imp pe_bl fun σ H Q ⟨Z, ph, env, m, re, wd, d, m', e, q⟩ => by cases e; exact q.here wd (.bl _)
  · cases h; exact pe_imp pe_int fun σ H Q ⟨Z, ph, env, m, re, wd, d, m', e, q⟩ => by cases e; exact q.here wd (.int _)
  · cases h; exact pe_imp pe_str fun σ H Q ⟨Z, ph, env, m, re, wd, d, m', e, q⟩ => by cases e; exact q.here wd (.str _)
  · exact h.elim
theorem n_glob {s : Str} {u : Value} {v : V} {d : D} (hg : Gl X s) (hm : X.mg s = some u) (r : RelV v u) (hr : ∀ Z ph H, RepV X.K Z ph H v d) (hd : (s == ("__debug__" : Str)) = false) :
    PE X (.Name s pos) (tEv X.K fun _ m => some (d, m)) :=
  pe_imp (pe_glob hg hm r hd) fun σ H Q ⟨Z, ph, env, m, re, wd, d, m', e, q⟩ => by cases e; exact q.here wd (hr _ _ _)
theorem n_bin {op : BOp} {o : Operator} (h : bopB op o = true) (ha : PE X x (tEv X.K ra)) (hb : PE X y (tEv X.K rb)) :
    PE X (.BinOp x o y pos) (tEv X.K fun env m => (ra env m).bind fun p => (rb env p.2).bind fun q => (bopD q.2 op p.1 q.1).map fun d => (d, q.2)) :=
  pe_imp (pe_op (or_bop h) ha hb) fun σ H Q ⟨Z, ph, env, m, re, wd, d, m', e, q⟩ => by
    obtain ⟨p, h1, e⟩ := Option.bind_eq_some_iff.mp e
    obtain ⟨p2, h2, e⟩ := Option.bind_eq_some_iff.mp e
    obtain ⟨d', h3, e⟩ := Option.map_eq_some_iff.mp e
    cases e
    exact ev_of re wd h1 fun ph1 H1 v s1 w1 re1 r1 => ev_of re1 w1 h2 fun ph2 H2 w s2 w2 re2 r2 => ⟨Z, ph2, p2.2, p.1, p2.1, _, w2, r1.mono s2, r2, h3, q.after (s1.trans s2)⟩
theorem n_binN {op : BOp} {o : Operator} (h : bopB op o = true) (hop : op = .add ∨ op = .mul) (ha : PE X x (tEv X.K ra)) (hb : PE X y (tEv X.K rb)) :
    PE X (.BinOp x o y pos) (tEvN X.K fun env m => (ra env m).bind fun p => (rb env p.2).bind fun q => (bopD q.2 op p.1 q.1).map fun d => (d, q.2)) := by
  have ho : OpR X (binaryOp o) (rGN X.K fun m x y => bopD m op x y) := by
    rcases hop with rfl | rfl <;> (cases o <;> first | (exact absurd h (by decide)) | exact or_addN | exact or_mulN)
  exact pe_imp (pe_op ho ha hb) fun σ H Q ⟨Z, ph, env, m, re, wd, d, m', e, q⟩ => by
    obtain ⟨p, h1, e⟩ := Option.bind_eq_some_iff.mp e
    obtain ⟨p2, h2, e⟩ := Option.bind_eq_some_iff.mp e
    obtain ⟨d', h3, e⟩ := Option.map_eq_some_iff.mp e
    cases e
    exact ev_of re wd h1 fun ph1 H1 v s1 w1 re1 r1 => ev_of re1 w1 h2 fun ph2 H2 w s2 w2 re2 r2 => ⟨Z, ph2, p2.2, p.1, p2.1, _, w2, r1.mono s2, r2, h3, q.after (s1.trans s2)⟩
theorem n_neg (ha : PE X x (tEv X.K ra)) : PE X (.UnaryOp .USub x pos) (tEv X.K fun env m => (ra env m).bind fun p => match p.1 with | .int i => some (.int (-i), p.2) | _ => none) :=
  pe_imp (pe_un un_neg ha) fun σ H Q ⟨Z, ph, env, m, re, wd, d, m', e, q⟩ => by
    obtain ⟨p, h1, e⟩ := Option.bind_eq_some_iff.mp e
    refine ev_of re wd h1 fun ph1 H1 v s1 w1 re1 r1 => ?_
    split at e
    · rename_i i hi
      cases e
      rw [hi] at r1
      cases r1
      exact ⟨i, rfl, (q.after s1).here w1 (.int _)⟩
    · cases e
def rCmp (op : COp) (ra rb : RE) : RE := fun env m => (ra env m).bind fun p => (rb env p.2).bind fun q => (cmpD q.2 op p.1 q.1).map fun d => (.bl d, q.2)
theorem n_cmp (hu : X.A.units + 64 < cLine) {op : COp} {o : CmpOp} (h : copB op o = true) (ha : PE X x (tEv X.K ra)) (hb : PE X y (tEv X.K rb)) (hm : behindInMarks o y = false) :
    PE X (.Compare x [o] [y] pos) (tEv X.K (rCmp op ra rb)) :=
  pe_imp (pe_cmpR (or_cop hu h) ha hb hm) fun σ H Q ⟨Z, ph, env, m, re, wd, d, m', e, q⟩ => by
    obtain ⟨p, h1, e⟩ := Option.bind_eq_some_iff.mp e
    obtain ⟨p2, h2, e⟩ := Option.bind_eq_some_iff.mp e
    obtain ⟨d', h3, e⟩ := Option.map_eq_some_iff.mp e
    cases e
    exact ev_of re wd h1 fun ph1 H1 v s1 w1 re1 r1 => ev_of re1 w1 h2 fun ph2 H2 w s2 w2 re2 r2 => ⟨Z, ph2, p2.2, p.1, p2.1, _, w2, r1.mono s2, r2, h3, (q.after (s1.trans s2)).here w2 (.bl _)⟩
theorem t_cmp (hu : X.A.units + 64 < cLine) {op : COp} {o : CmpOp} (h : copB op o = true) (ha : PE X x (tEv X.K ra)) (hb : PE X y (tEv X.K rb)) (hm : behindInMarks o y = false) :
    PT X (.Compare x [o] [y] pos) (tEvT X.K (rCmp op ra rb)) :=
  pt_imp (pt_cmpR (or_cop hu h) ha hb hm) fun σ H Q ⟨Z, ph, env, m, re, wd, d, m', e, q⟩ => by
    obtain ⟨p, h1, e⟩ := Option.bind_eq_some_iff.mp e
    obtain ⟨p2, h2, e⟩ := Option.bind_eq_some_iff.mp e
    obtain ⟨d', h3, e⟩ := Option.map_eq_some_iff.mp e
    cases e
    exact ev_of re wd h1 fun ph1 H1 v s1 w1 re1 r1 => ev_of re1 w1 h2 fun ph2 H2 w s2 w2 re2 r2 => ⟨Z, ph2, p2.2, p.1, p2.1, _, w2, r1.mono s2, r2, h3, _, rfl, q ph2 H2 (s1.trans s2) w2⟩
def rChain (o p : COp) (ra rb rc : RE) : RE := fun env m => (ra env m).bind fun x => (rb env x.2).bind fun y => (cmpD y.2 o x.1 y.1).bind fun k =>
  if k then (rc env y.2).bind fun z => (cmpD z.2 p y.1 z.1).map fun d => (.bl d, z.2) else some (.bl false, y.2)
theorem chain_run {op op' : COp} {o o' : CmpOp} {σ : L2.St} {H : Hp} {Q : VK} {Z ph env m} {b : Bool} {m'} (re : RepE X.K Z ph H σ env) (wd : Wd X.K Z ph m H) (e : rChain op op' ra rb rc env m = some (.bl b, m'))
    (q : ∀ ph' H', Sx ph H ph' H' → Wd X.K Z ph' m' H' → Q (.bl b) H') : tChain (rGC X.K fun m x y => cmpD m op x y) (rGC X.K fun m x y => cmpD m op' x y) (tEv X.K ra) (tEv X.K rb) (tEv X.K rc) σ H Q := by
  obtain ⟨p, h1, e⟩ := Option.bind_eq_some_iff.mp e
  obtain ⟨p2, h2, e⟩ := Option.bind_eq_some_iff.mp e
  obtain ⟨k, h3, e⟩ := Option.bind_eq_some_iff.mp e
  refine ev_of re wd h1 fun ph1 H1 v s1 w1 re1 r1 => ev_of re1 w1 h2 fun ph2 H2 w s2 w2 re2 r2 => ⟨Z, ph2, p2.2, p.1, p2.1, _, w2, r1.mono s2, r2, h3, k, rfl, ?_⟩
  cases k with
  | true =>
    simp only [if_true] at e ⊢
    obtain ⟨p3, h4, e⟩ := Option.bind_eq_some_iff.mp e
    obtain ⟨d', h5, e⟩ := Option.map_eq_some_iff.mp e
    cases e
    exact ev_of re2 w2 h4 fun ph3 H3 v3 s3 w3 re3 r3 => ⟨Z, ph3, p3.2, p2.1, p3.1, _, w3, r2.mono s3, r3, h5, q ph3 H3 ((s1.trans s2).trans s3) w3⟩
  | false =>
    simp only [Bool.false_eq_true, if_false] at e ⊢
    cases e
    exact q ph2 H2 (s1.trans s2) w2
theorem rChain_bl {op op' : COp} {env : Env} {m m' : M} {d : D} (e : rChain op op' ra rb rc env m = some (d, m')) : ∃ b, d = .bl b := by
  obtain ⟨p, h1, e⟩ := Option.bind_eq_some_iff.mp e
  obtain ⟨p2, h2, e⟩ := Option.bind_eq_some_iff.mp e
  obtain ⟨k, h3, e⟩ := Option.bind_eq_some_iff.mp e
  split at e
  · obtain ⟨p3, h4, e⟩ := Option.bind_eq_some_iff.mp e
    obtain ⟨d', h5, e⟩ := Option.map_eq_some_iff.mp e
    cases e
    exact ⟨_, rfl⟩
  · cases e
    exact ⟨_, rfl⟩
theorem n_chain (hu : X.A.units + 64 < cLine) {op op' : COp} {o o' : CmpOp} (h : copB op o = true) (h' : copB op' o' = true) (ha : PE X x (tEv X.K ra)) (hb : PE X y (tEv X.K rb)) (hc : PE X w (tEv X.K rc)) (hm : behindInMarks o' w = false) :
    PE X (.Compare x [o, o'] [y, w] pos) (tEv X.K (rChain op op' ra rb rc)) :=
  pe_imp (pe_chain (or_cop hu h) (or_cop hu h') ha hb hc hm) fun σ H Q ⟨Z, ph, env, m, re, wd, d, m', e, q⟩ => by
    obtain ⟨b, rfl⟩ := rChain_bl e
    exact chain_run (o := o) (o' := o') re wd e fun ph' H' s w => (q.after s).here w (.bl _)
theorem t_chain (hu : X.A.units + 64 < cLine) {op op' : COp} {o o' : CmpOp} (h : copB op o = true) (h' : copB op' o' = true) (ha : PE X x (tEv X.K ra)) (hb : PE X y (tEv X.K rb)) (hc : PE X w (tEv X.K rc)) (hm : behindInMarks o' w = false) :
    PT X (.Compare x [o, o'] [y, w] pos) (tEvT X.K (rChain op op' ra rb rc)) :=
  pt_imp (pt_chain (or_cop hu h) (or_cop hu h') ha hb hc hm) fun σ H Q ⟨Z, ph, env, m, re, wd, d, m', e, q⟩ =>
    chain_run (o := o) (o' := o') re wd e fun ph' H' s w => ⟨d, rfl, q ph' H' s w⟩
theorem non_iff {K : PySem.W.Frag} {Z : Addr → Prop} {ph : List Addr} {H : Hp} {v : V} {d : D} (r : RepV K Z ph H v d) : decide (v = .non) = decide (d = .non) := by
  cases r <;> simp
def rIsN_ (ra : RE) : RE := fun env m => (ra env m).map fun p => (.bl (decide (p.1 = .non)), p.2)
def rNotN_ (ra : RE) : RE := fun env m => (ra env m).map fun p => (.bl (!decide (p.1 = .non)), p.2)
theorem n_isN {k : Nat} {pos' : Pos} (ha : PE X x (tEv X.K ra)) : PE X (.Compare x [.Is] [.Constant .none k pos'] pos) (tEv X.K (rIsN_ ra)) :=
  pe_imp (pe_cmp (pc_isN ha) rfl) fun σ H Q ⟨Z, ph, env, m, re, wd, d, m', e, q⟩ => by
    obtain ⟨p, h1, e⟩ := Option.map_eq_some_iff.mp e
    cases e
    refine ev_of re wd h1 fun ph1 H1 v s1 w1 re1 r1 => ?_
    rw [non_iff r1]
    exact (q.after s1).here w1 (.bl _)
theorem t_isN {k : Nat} {pos' : Pos} (ha : PE X x (tEv X.K ra)) : PT X (.Compare x [.Is] [.Constant .none k pos'] pos) (tEvT X.K (rIsN_ ra)) :=
  pt_imp (pt_cmp (pc_isN ha) rfl) fun σ H Q ⟨Z, ph, env, m, re, wd, d, m', e, q⟩ => by
    obtain ⟨p, h1, e⟩ := Option.map_eq_some_iff.mp e
    cases e
    refine ev_of re wd h1 fun ph1 H1 v s1 w1 re1 r1 => ⟨_, rfl, ?_⟩
    rw [non_iff r1]
    exact q ph1 H1 s1 w1
theorem n_notN {k : Nat} {pos' : Pos} (ha : PE X x (tEv X.K ra)) : PE X (.Compare x [.IsNot] [.Constant .none k pos'] pos) (tEv X.K (rNotN_ ra)) :=
  pe_imp (pe_cmp (pc_notN ha) rfl) fun σ H Q ⟨Z, ph, env, m, re, wd, d, m', e, q⟩ => by
    obtain ⟨p, h1, e⟩ := Option.map_eq_some_iff.mp e
    cases e
    refine ev_of re wd h1 fun ph1 H1 v s1 w1 re1 r1 => ?_
    rw [non_iff r1]
    exact (q.after s1).here w1 (.bl _)
theorem t_notN {k : Nat} {pos' : Pos} (ha : PE X x (tEv X.K ra)) : PT X (.Compare x [.IsNot] [.Constant .none k pos'] pos) (tEvT X.K (rNotN_ ra)) :=
  pt_imp (pt_cmp (pc_notN ha) rfl) fun σ H Q ⟨Z, ph, env, m, re, wd, d, m', e, q⟩ => by
    obtain ⟨p, h1, e⟩ := Option.map_eq_some_iff.mp e
    cases e
    refine ev_of re wd h1 fun ph1 H1 v s1 w1 re1 r1 => ⟨_, rfl, ?_⟩
    rw [non_iff r1]
    exact q ph1 H1 s1 w1

/-! ### and, or, not, if -/
def rAnd_ (ra rb : RE) : RE := fun env m => (ra env m).bind fun p => match p.1 with
  | .bl true => rb env p.2
  | .bl false => some (.bl false, p.2)
  | _ => none
def rOr_ (ra rb : RE) : RE := fun env m => (ra env m).bind fun p => match p.1 with
  | .bl true => some (.bl true, p.2)
  | .bl false => rb env p.2
  | _ => none
def rNot_ (ra : RE) : RE := fun env m => (ra env m).bind fun p => match p.1 with
  | .bl k => some (.bl (!k), p.2)
  | _ => none
def rIf_ (rc ra rb : RE) : RE := fun env m => (rc env m).bind fun p => match p.1 with
  | .bl true => ra env p.2
  | .bl false => rb env p.2
  | _ => none
variable {rest : List Expr}
theorem n_and1 (ha : PE X x (tEv X.K ra)) : PE X (.BoolOp .And [x] pos) (tEv X.K ra) := pe_one ha
theorem n_or1 (ha : PE X x (tEv X.K ra)) : PE X (.BoolOp .Or [x] pos) (tEv X.K ra) := pe_one ha
theorem n_and (ha : PE X x (tEv X.K ra)) (hb : PE X (.BoolOp .And (y :: rest) pos) (tEv X.K rb)) : PE X (.BoolOp .And (x :: y :: rest) pos) (tEv X.K (rAnd_ ra rb)) :=
  pe_imp (pe_and ha hb) fun σ H Q ⟨Z, ph, env, m, re, wd, d, m', e, q⟩ => by
    obtain ⟨p, h1, e⟩ := Option.bind_eq_some_iff.mp e
    refine ev_of re wd h1 fun ph1 H1 v s1 w1 re1 r1 => ?_
    split at e
    · rename_i hp
      rw [hp] at r1
      cases r1
      exact ⟨true, rfl, iteT (ev_of re1 w1 e fun ph2 H2 v s2 w2 re2 r2 => q ph2 H2 v (s1.trans s2) w2 r2)⟩
    · rename_i hp
      rw [hp] at r1
      cases r1
      cases e
      exact ⟨false, rfl, iteF ((q.after s1).here w1 (.bl _))⟩
    · cases e
theorem n_or (ha : PE X x (tEv X.K ra)) (hb : PE X (.BoolOp .Or (y :: rest) pos) (tEv X.K rb)) : PE X (.BoolOp .Or (x :: y :: rest) pos) (tEv X.K (rOr_ ra rb)) :=
  pe_imp (pe_or ha hb) fun σ H Q ⟨Z, ph, env, m, re, wd, d, m', e, q⟩ => by
    obtain ⟨p, h1, e⟩ := Option.bind_eq_some_iff.mp e
    refine ev_of re wd h1 fun ph1 H1 v s1 w1 re1 r1 => ?_
    split at e
    · rename_i hp
      rw [hp] at r1
      cases r1
      cases e
      exact ⟨true, rfl, iteT ((q.after s1).here w1 (.bl _))⟩
    · rename_i hp
      rw [hp] at r1
      cases r1
      exact ⟨false, rfl, iteF (ev_of re1 w1 e fun ph2 H2 v s2 w2 re2 r2 => q ph2 H2 v (s1.trans s2) w2 r2)⟩
    · cases e
theorem n_not (ha : PE X x (tEv X.K ra)) : PE X (.UnaryOp .Not x pos) (tEv X.K (rNot_ ra)) :=
  pe_imp (pe_not ha) fun σ H Q ⟨Z, ph, env, m, re, wd, d, m', e, q⟩ => by
    obtain ⟨p, h1, e⟩ := Option.bind_eq_some_iff.mp e
    refine ev_of re wd h1 fun ph1 H1 v s1 w1 re1 r1 => ?_
    split at e
    · rename_i k hp
      rw [hp] at r1
      cases r1
      cases e
      exact ⟨k, rfl, (q.after s1).here w1 (.bl _)⟩
    · cases e
theorem w_and1 (ha : PT X x (tEvT X.K ra)) : PW X (.BoolOp .And [x] pos) (tEvT X.K ra) := pw_and1 ha
theorem w_or1 (ha : PT X x (tEvT X.K ra)) : PW X (.BoolOp .Or [x] pos) (tEvT X.K ra) := pw_or1 ha
theorem w_and (ha : PT X x (tEvT X.K ra)) (hb : PW X (.BoolOp .And (y :: rest) pos) (tEvT X.K rb)) : PW X (.BoolOp .And (x :: y :: rest) pos) (tEvT X.K (rAnd_ ra rb)) :=
  pw_imp (pw_and ha hb) fun σ H Q ⟨Z, ph, env, m, re, wd, d, m', e, q⟩ => by
    obtain ⟨p, h1, e⟩ := Option.bind_eq_some_iff.mp e
    split at e
    · rename_i hp
      exact evt_of re wd (b := true) (m1 := p.2) (by rw [h1, ← hp]) fun ph1 H1 s1 w1 re1 => iteT (evt_of re1 w1 e fun ph2 H2 s2 w2 re2 => q ph2 H2 (s1.trans s2) w2)
    · rename_i hp
      cases e
      exact evt_of re wd (b := false) (m1 := p.2) (by rw [h1, ← hp]) fun ph1 H1 s1 w1 re1 => iteF (q ph1 H1 s1 w1)
    · cases e
theorem w_or (ha : PT X x (tEvT X.K ra)) (hb : PW X (.BoolOp .Or (y :: rest) pos) (tEvT X.K rb)) : PW X (.BoolOp .Or (x :: y :: rest) pos) (tEvT X.K (rOr_ ra rb)) :=
  pw_imp (pw_or ha hb) fun σ H Q ⟨Z, ph, env, m, re, wd, d, m', e, q⟩ => by
    obtain ⟨p, h1, e⟩ := Option.bind_eq_some_iff.mp e
    split at e
    · rename_i hp
      cases e
      exact evt_of re wd (b := true) (m1 := p.2) (by rw [h1, ← hp]) fun ph1 H1 s1 w1 re1 => iteT (q ph1 H1 s1 w1)
    · rename_i hp
      exact evt_of re wd (b := false) (m1 := p.2) (by rw [h1, ← hp]) fun ph1 H1 s1 w1 re1 => iteF (evt_of re1 w1 e fun ph2 H2 s2 w2 re2 => q ph2 H2 (s1.trans s2) w2)
    · cases e
theorem t_not (ha : PT X x (tEvT X.K ra)) : PT X (.UnaryOp .Not x pos) (tEvT X.K (rNot_ ra)) :=
  pt_imp (pt_not ha) fun σ H Q ⟨Z, ph, env, m, re, wd, d, m', e, q⟩ => by
    obtain ⟨p, h1, e⟩ := Option.bind_eq_some_iff.mp e
    split at e
    · rename_i k hp
      cases e
      exact evt_of re wd (b := k) (m1 := p.2) (by rw [h1, ← hp]) fun ph1 H1 s1 w1 re1 => q ph1 H1 s1 w1
    · cases e
theorem t_val (ha : PE X x (tEv X.K ra)) (he : ∀ whole, isTrue x X.env whole = (do let v ← whole; standAt x.pos; holding [v] (truthy v))) : PT X x (tEvT X.K ra) :=
  pt_imp (pt_val ha he) fun σ H Q ⟨Z, ph, env, m, re, wd, d, m', e, q⟩ => by
    refine ev_of re wd e fun ph1 H1 v s1 w1 re1 r1 => ?_
    cases r1
    exact ⟨d, rfl, q ph1 H1 s1 w1⟩
theorem t_ife (hc : PT X w (tEvT X.K rc)) (ha : PT X x (tEvT X.K ra)) (hb : PT X y (tEvT X.K rb)) : PT X (.IfExp w x y pos) (tEvT X.K (rIf_ rc ra rb)) := by
  refine ⟨fun pins s σ H Q I ⟨Z, ph, env, m, re, wd, d, m', e, q⟩ => ?_⟩
  obtain ⟨p, h1, e⟩ := Option.bind_eq_some_iff.mp e
  show wpAny _ _ (do if ← isTrue w X.env (eval w X.env) then isTrue x X.env (eval x X.env) else isTrue y X.env (eval y X.env)) _ _ s
  split at e
  · rename_i hp
    refine wpAny_bind (thn (hc.run pins s σ H (fun b H1 => b = true ∧ tEvT X.K ra σ H1 Q) I (evt_of re wd (b := true) (m1 := p.2) (by rw [h1, ← hp]) fun ph1 H1 s1 w1 re1 => ⟨rfl, evt_of re1 w1 e fun ph2 H2 s2 w2 re2 => q ph2 H2 (s1.trans s2) w2⟩)) fun b s1 ⟨H1, I1, hb', q1⟩ => ?_)
    subst hb'
    exact ha.run pins s1 σ H1 Q I1 q1
  · rename_i hp
    refine wpAny_bind (thn (hc.run pins s σ H (fun b H1 => b = false ∧ tEvT X.K rb σ H1 Q) I (evt_of re wd (b := false) (m1 := p.2) (by rw [h1, ← hp]) fun ph1 H1 s1 w1 re1 => ⟨rfl, evt_of re1 w1 e fun ph2 H2 s2 w2 re2 => q ph2 H2 (s1.trans s2) w2⟩)) fun b s1 ⟨H1, I1, hb', q1⟩ => ?_)
    subst hb'
    exact hb.run pins s1 σ H1 Q I1 q1
  · cases e
theorem n_ife (hc : PT X w (tEvT X.K rc)) (ha : PE X x (tEv X.K ra)) (hb : PE X y (tEv X.K rb)) : PE X (.IfExp w x y pos) (tEv X.K (rIf_ rc ra rb)) :=
  pe_imp (pe_ifExp hc ha hb) fun σ H Q ⟨Z, ph, env, m, re, wd, d, m', e, q⟩ => by
    obtain ⟨p, h1, e⟩ := Option.bind_eq_some_iff.mp e
    split at e
    · rename_i hp
      exact evt_of re wd (b := true) (m1 := p.2) (by rw [h1, ← hp]) fun ph1 H1 s1 w1 re1 => iteT (ev_of re1 w1 e fun ph2 H2 v s2 w2 re2 r2 => q ph2 H2 v (s1.trans s2) w2 r2)
    · rename_i hp
      exact evt_of re wd (b := false) (m1 := p.2) (by rw [h1, ← hp]) fun ph1 H1 s1 w1 re1 => iteF (ev_of re1 w1 e fun ph2 H2 v s2 w2 re2 r2 => q ph2 H2 v (s1.trans s2) w2 r2)
    · cases e

/-! ### arguments, displays -/
def rCons_ (ra : RE) (rs : RA) : RA := fun env m => (ra env m).bind fun p => (rs env p.2).bind fun q => some (p.1 :: q.1, q.2)
variable {xs : List Expr} {rs : RA}
theorem a_nil : PA X [] (tEvA X.K fun _ m => some ([], m)) := pa_imp pa_nil fun σ H Q ⟨Z, ph, env, m, re, wd, d, m', e, q⟩ => by cases e; exact q ph H [] Sx.refl wd .nil
theorem a_cons (ha : PE X x (tEv X.K ra)) (hr : PA X xs (tEvA X.K rs)) (hs : starEach (x :: xs) X.env = (false, eval x X.env) :: starEach xs X.env) : PA X (x :: xs) (tEvA X.K (rCons_ ra rs)) :=
  pa_imp (pa_cons ha hr hs) fun σ H Q ⟨Z, ph, env, m, re, wd, d, m', e, q⟩ => by
    obtain ⟨p, h1, e⟩ := Option.bind_eq_some_iff.mp e
    obtain ⟨p2, h2, e⟩ := Option.bind_eq_some_iff.mp e
    cases e
    exact ev_of re wd h1 fun ph1 H1 v s1 w1 re1 r1 => eva_of re1 w1 h2 fun ph2 H2 vs s2 w2 re2 r2 => q ph2 H2 (v :: vs) (s1.trans s2) w2 (.cons (r1.mono s2) r2)
theorem n_tup {k : Nat} (ha : PA X xs (tEvA X.K rs)) : PE X (.Tuple xs k pos) (tEv X.K fun env m => (rs env m).bind fun p => if p.1.length ≤ lim then some (.tup p.1, p.2) else none) :=
  pe_imp (pe_tup ha) fun σ H Q ⟨Z, ph, env, m, re, wd, d, m', e, q⟩ => by
    obtain ⟨p, h1, e⟩ := Option.bind_eq_some_iff.mp e
    split at e
    · rename_i hl
      cases e
      exact eva_of re wd h1 fun ph1 H1 vs s1 w1 re1 r1 => ⟨by rw [r1.len, ← lim_eq]; exact hl, fun l hl => (q.after s1).tup w1 hl r1⟩
    · cases e
theorem n_lstN (ha : PA X xs (tEvA X.K rs)) : PE X (.List xs pos) (tEvN X.K fun env m => (rs env m).bind fun p => if p.1.length ≤ lim then some (.lst p.1, p.2) else none) :=
  pe_imp (pe_lst ha) fun σ H Q ⟨Z, ph, env, m, re, wd, d, m', e, q⟩ => by
    obtain ⟨p, h1, e⟩ := Option.bind_eq_some_iff.mp e
    split at e
    · rename_i hl
      cases e
      exact eva_of re wd h1 fun ph1 H1 vs s1 w1 re1 r1 => ⟨by rw [r1.len, ← lim_eq]; exact hl, fun l hl => (q.after s1).upd w1 hl r1⟩
    · cases e
/-- a new list as a value, as a mutable thing -/
theorem of_new {r : RE} (h : PE X x (tEvN X.K r)) (hr : ∀ env m d m', r env m = some (d, m') → ∃ ds, d = .lst ds) : PE X x (tEv X.K r) :=
  pe_imp h fun σ H Q ⟨Z, ph, env, m, re, wd, d, m', e, q⟩ => by
    obtain ⟨ds, rfl⟩ := hr env m d m' e
    exact ⟨Z, ph, env, m, re, wd, ds, m', e, q.np wd⟩
theorem n_box {r : RE} (h : PE X x (tEvN X.K r)) : PE X x (tEv X.K fun env m => (r env m).bind fun p => match p.1 with | .lst xs => some (.ref p.2.length, p.2 ++ [.lst xs]) | _ => none) :=
  pe_imp h fun σ H Q ⟨Z, ph, env, m, re, wd, d, m', e, q⟩ => by
    obtain ⟨p, h1, e⟩ := Option.bind_eq_some_iff.mp e
    split at e
    · rename_i ds hp
      cases e
      refine ⟨Z, ph, env, m, re, wd, ds, p.2, by rw [h1, ← hp], fun ph' H' a vs hn ha hna s w r => ?_⟩
      refine q (ph' ++ [a]) H' (.ref a) ?_ (w.box ha hna r) (.ref ?_)
      · refine ⟨?_, fun b hb => ?_, s.fr, s.ft, s.old⟩
        · obtain ⟨x, e⟩ := s.ext
          exact ⟨x ++ [a], by rw [e, List.append_assoc]⟩
        · rcases List.mem_append.mp hb with hb | hb
          · exact s.new b hb
          · have e : b = a := by simpa using hb
            subst e
            exact .inr hn
      · rw [← w.len]; simp
    · cases e

/-! ### calls -/
def spF (K : PySem.W.Frag) (k : Nat) (f : List D → M → Option (D × M)) : Sp := fun vs H Q _ => vs.length = k ∧ ∃ Z ph m ds, RepVs K Z ph H vs ds ∧ Wd K Z ph m H ∧ ∃ d m', f ds m = some (d, m') ∧ PV K Z ph H m' d Q
def rCall_ (f : List D → M → Option (D × M)) (rs : RA) : RE := fun env m => (rs env m).bind fun p => f p.1 p.2
def rCallP_ (f : List D → M → Option (D × M)) (rs : RA) : RE := fun env m => (rs env m).bind fun p => (f p.1 p.2).bind fun q => if q.2.take p.2.length = p.2 ∧ pure_ q.1 = true then some (q.1, p.2) else none
variable {n k : Nat} {f : Addr} {fd : FuncData} {ps : List Str} {nm : Str} {p : Pos} {g : List D → M → Option (D × M)}
theorem call_sp {E : XK} {σ : L2.St} {H : Hp} {Q : VK} (hk : ∀ ds m r, g ds m = some r → ds.length = k) (h : tEv X.K (rCall_ g rs) σ H Q) : tCall (spF X.K k g) [] E (tEvA X.K rs) σ H Q := by
  obtain ⟨Z, ph, env, m, re, wd, d, m', e, q⟩ := h
  obtain ⟨p, h1, e⟩ := Option.bind_eq_some_iff.mp e
  refine eva_of re wd h1 fun ph1 H1 vs s1 w1 re1 r1 => ?_
  rw [List.append_nil]
  exact ⟨by rw [r1.len]; exact hk _ _ _ e, Z, ph1, p.2, p.1, r1, w1, d, m', e, q.after s1⟩
theorem callP_sp {E : XK} {σ : L2.St} {H : Hp} {Q : VK} (hk : ∀ ds m r, g ds m = some r → ds.length = k) (h : tEv X.K (rCallP_ g rs) σ H Q) : tCall (spF X.K k g) [] E (tEvA X.K rs) σ H Q := by
  obtain ⟨Z, ph, env, m, re, wd, d, m', e, q⟩ := h
  obtain ⟨p, h1, e⟩ := Option.bind_eq_some_iff.mp e
  obtain ⟨p2, h2, e⟩ := Option.bind_eq_some_iff.mp e
  split at e
  · rename_i hc
    cases e
    refine eva_of re wd h1 fun ph1 H1 vs s1 w1 re1 r1 => ?_
    rw [List.append_nil]
    refine ⟨by rw [r1.len]; exact hk _ _ _ h2, Z, ph1, p.2, p.1, r1, w1, p2.1, p2.2, h2, fun ph' H' u s w r => ?_⟩
    obtain ⟨more, e⟩ := s.ext
    subst e
    exact q ph1 H' u (s1.trans s.cut) (w1.cut w hc.1) (r.cut (below_pure _ hc.2))
  · cases e
def rCallF_ (f : List D → M → Option (D × M)) (rs : RA) : RE := fun env m => (rs env m).bind fun p => (f p.1 p.2).bind fun q => freshD p.2 q
theorem callF_sp {E : XK} {σ : L2.St} {H : Hp} {Q : VK} (hk : ∀ ds m r, g ds m = some r → ds.length = k) (h : tEv X.K (rCallF_ g rs) σ H Q) : tCall (spF X.K k g) [] E (tEvA X.K rs) σ H Q := by
  obtain ⟨Z, ph, env, m, re, wd, d, m', e, q⟩ := h
  obtain ⟨p, h1, e⟩ := Option.bind_eq_some_iff.mp e
  obtain ⟨⟨d2, m2⟩, h2, e⟩ := Option.bind_eq_some_iff.mp e
  unfold freshD at e
  split at e
  · rename_i l hl
    have hl : d2 = .ref l := hl
    subst hl
    split at e
    · rename_i xs hx
      have hx : m2[l]? = some (.lst xs) := hx
      split at e
      · rename_i hc
        obtain ⟨c1, c2, c3⟩ := hc
        cases e
        refine eva_of re wd h1 fun ph1 H1 vs s1 w1 re1 r1 => ?_
        rw [List.append_nil]
        refine ⟨by rw [r1.len]; exact hk _ _ _ h2, Z, ph1, p.2, p.1, r1, w1, .ref l, m2, h2, fun ph' H' u s w r => ?_⟩
        obtain ⟨more, e⟩ := s.ext
        subst e
        cases r with
        | @ref a _ ha =>
        obtain ⟨b, vs', e1, e2, r2⟩ := w.obj l xs hx
        rw [ha] at e1
        cases e1
        have hlen : p.2.length ≤ m2.length := by rw [← w.len, ← w1.len, List.length_append]; omega
        have hnd := List.nodup_append.mp w.nd
        have hmore : a ∈ more := by
          rw [List.getElem?_append_right (by rw [w1.len]; exact c1)] at ha
          exact List.mem_of_getElem? ha
        have hnp : a ∉ ph1 := fun q => hnd.2.2 a q a hmore rfl
        have hnz : ¬ Z a := fun hz => by
          obtain ⟨o, ho⟩ := w1.zin a hz
          rcases s.new a (List.mem_append_right _ hmore) with q | q
          · exact hnp q
          · rw [ho] at q; cases q
        refine q ph1 H' (.ref a) (s1.trans s.cut) ⟨by show ph1.length = (m2.take p.2.length).length; rw [List.length_take, w1.len]; omega, hnd.1, fun j ys hj => ?_, w.zin⟩ (.lst e2 hnp hnz (r2.cut (belows_pure _ c2)))
        have hjl : j < p.2.length := by
          have := (List.getElem?_eq_some_iff.mp hj).1
          rw [List.length_take] at this
          omega
        have hj' : m2[j]? = some (.lst ys) := by rw [List.getElem?_take_of_lt hjl] at hj; exact hj
        obtain ⟨b, us, f1, f2, r3⟩ := w.obj j ys hj'
        refine ⟨b, us, by rw [List.getElem?_append_left (by rw [w1.len]; exact hjl)] at f1; exact f1, f2, r3.cut ?_⟩
        rw [w1.len]
        unfold belowM at c3
        rw [List.all_eq_true] at c3
        exact c3 _ (List.mem_of_getElem? hj)
      · cases e
    · cases e
  · cases e
theorem n_callG {t : TE} (F : FnK X.prog X.w X.K X.mg X.base n f fd ps (spF X.K k g)) (ht : ∀ σ H Q, t σ H Q → tCall (spF X.K k g) [] E0 (tEvA X.K rs) σ H Q) (hr : Rm n X.A) (hg : Gl X nm) (hm : X.mg nm = some (.ref f)) (hkp : PySem.W.keepIn X.K (.ref f) = true) (hb : Binds X.K fd ps [])
    (ha : PA X xs (tEvA X.K rs)) (hst : ∀ z zs, xs = z :: zs → starEach (z :: zs) X.env = (false, eval z X.env) :: starEach zs X.env) (hpl : ∀ z zs, xs = z :: zs → (backTo pos (starEach zs X.env)).any (·.1) = false) (hnil : xs = [] → rs = fun _ m => some ([], m)) (hdb : (nm == ("__debug__" : Str)) = false) :
    PE X (.Call (.Name nm p) xs [] pos) t := by
  cases xs with
  | nil =>
    refine pe_imp (k_call0 F hr hg hm hkp hb hdb) fun σ H Q h => ?_
    have h := ht _ _ _ h
    rw [hnil rfl] at h
    obtain ⟨Z, ph, env, m, re, wd, d, m', e, q⟩ := h
    cases e
    exact q ph H [] Sx.refl wd .nil
  | cons z zs => exact pe_imp (k_call F hr hg hm hkp hb ha hdb (hst z zs rfl) (hpl z zs rfl)) ht

/-! ### built-in functions -/
def rBi_ (b : BI) (rs : RA) : RE := fun env m => (rs env m).bind fun p => (biD p.2 b p.1).map fun d => (d, p.2)
def rGB (K : PySem.W.Frag) (g : M → List D → Option D) : List V → Hp → VK → Prop := fun vs H Q => ∃ Z ph m ds z, Wd K Z ph m H ∧ RepVs K Z ph H vs ds ∧ g m ds = some z ∧ PV K Z ph H m z Q
def rGBN (K : PySem.W.Frag) (g : M → List D → Option D) : List V → Hp → VK → Prop := fun vs H Q => ∃ Z ph m ds zs, Wd K Z ph m H ∧ RepVs K Z ph H vs ds ∧ g m ds = some (.lst zs) ∧ NP K Z ph H m zs Q
theorem bi_run {σ : L2.St} {H : Hp} {Q : VK} {b : BI} (h : tEv X.K (rBi_ b rs) σ H Q) : tCB (rGB X.K fun m ds => biD m b ds) (tEvA X.K rs) σ H Q := by
  obtain ⟨Z, ph, env, m, re, wd, d, m', e, q⟩ := h
  obtain ⟨p, h1, e⟩ := Option.bind_eq_some_iff.mp e
  obtain ⟨z, h2, e⟩ := Option.map_eq_some_iff.mp e
  cases e
  exact eva_of re wd h1 fun ph1 H1 vs s1 w1 re1 r1 => ⟨Z, ph1, p.2, p.1, _, w1, r1, h2, q.after s1⟩
theorem bi_runN {σ : L2.St} {H : Hp} {Q : VK} {b : BI} (h : tEvN X.K (rBi_ b rs) σ H Q) : tCB (rGBN X.K fun m ds => biD m b ds) (tEvA X.K rs) σ H Q := by
  obtain ⟨Z, ph, env, m, re, wd, d, m', e, q⟩ := h
  obtain ⟨p, h1, e⟩ := Option.bind_eq_some_iff.mp e
  obtain ⟨z, h2, e⟩ := Option.map_eq_some_iff.mp e
  cases e
  exact eva_of re wd h1 fun ph1 H1 vs s1 w1 re1 r1 => ⟨Z, ph1, p.2, p.1, _, w1, r1, h2, q.after s1⟩
theorem rep1 {K : PySem.W.Frag} {Z : Addr → Prop} {ph : List Addr} {H : Hp} {vs : List V} {d : D} (r : RepVs K Z ph H vs [d]) : ∃ v, vs = [v] ∧ RepV K Z ph H v d := by
  cases r with | cons h r => cases r; exact ⟨_, rfl, h⟩
theorem rep2 {K : PySem.W.Frag} {Z : Addr → Prop} {ph : List Addr} {H : Hp} {vs : List V} {d e : D} (r : RepVs K Z ph H vs [d, e]) : ∃ v w, vs = [v, w] ∧ RepV K Z ph H v d ∧ RepV K Z ph H w e := by
  cases r with | cons h r => cases r with | cons h' r => cases r; exact ⟨_, _, rfl, h, h'⟩
theorem c_len : CallR X (.builtin "len") (rGB X.K fun m ds => biD m .len ds) := by
  intro pins s σ H vs us Q I r h
  obtain ⟨Z, ph, m, ds, z, wd, rs, hz, q⟩ := h
  match ds, rs, hz with
  | [d], rs, hz =>
    obtain ⟨v, rfl, rv⟩ := rep1 rs
    obtain ⟨n, hn, rfl⟩ := Option.map_eq_some_iff.mp hz
    refine call_len pins s σ H _ us Q I r ?_
    unfold lenD at hn
    split at hn
    · rename_i xs e
      cases hn
      obtain ⟨a, ws, rfl, h1, r1⟩ := rd_tup rv e
      exact ⟨_, ws.length, rfl, .inr ⟨ws, h1, rfl⟩, by rw [r1.len]; exact q.here wd (.int _)⟩
    · rename_i xs e
      cases hn
      obtain ⟨a, ws, rfl, h1, r1⟩ := rd_lst wd rv e
      exact ⟨_, ws.length, rfl, .inl ⟨ws, SqL.of h1, rfl⟩, by rw [r1.len]; exact q.here wd (.int _)⟩
    · rename_i xs e
      cases hn
      obtain ⟨a, ws, rfl, h1, r1⟩ := rd_frz rv e
      exact ⟨_, ws.length, rfl, .inl ⟨ws, h1.sqL, rfl⟩, by rw [r1.len]; exact q.here wd (.int _)⟩
    · rename_i z e
      split at hn
      · rename_i hl
        cases hn
        obtain rfl := rd_str rv e
        exact ⟨_, z.length, rfl, ⟨by rw [← lim_eq]; exact hl, rfl⟩, q.here wd (.int _)⟩
      · cases hn
    · cases hn
theorem c_int : CallR X (.type "int") (rGB X.K fun m ds => biD m .int ds) := by
  intro pins s σ H vs us Q I r h
  obtain ⟨Z, ph, m, ds, z, wd, rs, hz, q⟩ := h
  match ds, rs, hz with
  | [.int i], rs, hz =>
    obtain ⟨v, rfl, rv⟩ := rep1 rs
    cases rv; cases hz
    exact call_int1 pins s σ H _ us Q I r (.inl ⟨_, rfl, q.here wd (.int _)⟩)
  | [.bl b], rs, hz =>
    obtain ⟨v, rfl, rv⟩ := rep1 rs
    cases rv; cases hz
    exact call_int1 pins s σ H _ us Q I r (.inr ⟨_, rfl, q.here wd (.int _)⟩)
theorem c_tuple : CallR X (.type "tuple") (rGB X.K fun m ds => biD m .tuple ds) := by
  intro pins s σ H vs us Q I r h
  obtain ⟨Z, ph, m, ds, z, wd, rs, hz, q⟩ := h
  match ds, rs, hz with
  | [d], rs, hz =>
    obtain ⟨v, rfl, rv⟩ := rep1 rs
    obtain ⟨xs, hn, rfl⟩ := Option.map_eq_some_iff.mp hz
    obtain ⟨a, ws, rfl, h1, r1⟩ := rd_seq wd rv hn
    refine call_tuple_of pins s σ H _ us Q I r ⟨a, ws, rfl, ?_⟩
    rcases h1 with h1 | h1
    · exact .inl ⟨h1, fun l hl => q.tup wd hl r1⟩
    · exact .inr ⟨h1, q.here wd (.tup h1 r1)⟩
theorem signs_rep {K : PySem.W.Frag} {Z : Addr → Prop} {ph : List Addr} {H : Hp} : ∀ (l : List Nat), RepVs K Z ph H (l.map fun c => V.str ⟨#[c]⟩) (l.map fun c => D.str ⟨#[c]⟩)
  | [] => .nil
  | c :: l => .cons (.str _) (signs_rep l)
theorem c_listN (hc : X.calm = true) : CallR X (.type "list") (rGBN X.K fun m ds => biD m .list ds) := by
  intro pins s σ H vs us Q I r h
  obtain ⟨Z, ph, m, ds, z, wd, rs, hz, q⟩ := h
  match ds, rs, hz with
  | [.str x], rs, hz =>
    obtain ⟨v, rfl, rv⟩ := rep1 rs
    cases rv
    simp only [biD] at hz
    split at hz
    · rename_i hl
      cases hz
      exact cr_listS hc pins s σ H _ us Q I r ⟨x, rfl, by rw [← lim_eq]; exact hl, fun l hl => q.upd wd hl (signs_rep _)⟩
    · cases hz
  | [.non], rs, hz | [.bl _], rs, hz | [.int _], rs, hz | [.tup _], rs, hz | [.lst _], rs, hz | [.frz _], rs, hz | [.ref _], rs, hz =>
    obtain ⟨v, rfl, rv⟩ := rep1 rs
    simp only [biD] at hz
    obtain ⟨xs, hn, e⟩ := Option.map_eq_some_iff.mp hz
    cases e
    obtain ⟨a, ws, rfl, h1, r1⟩ := rd_seq wd rv hn
    exact call_list_of pins s σ H _ us Q I r ⟨a, ws, rfl, h1, fun l hl => q.upd wd hl r1⟩
theorem biD_list {m : M} {ds : List D} {z : D} (h : biD m .list ds = some z) : ∃ zs, z = .lst zs := by
  match ds, h with
  | [.str x], h =>
    simp only [biD] at h
    split at h
    · cases h; exact ⟨_, rfl⟩
    · cases h
  | [.non], h | [.bl _], h | [.int _], h | [.tup _], h | [.lst _], h | [.frz _], h | [.ref _], h =>
    simp only [biD] at h
    obtain ⟨xs, hn, e⟩ := Option.map_eq_some_iff.mp h
    exact ⟨xs, e.symm⟩
theorem c_list (hc : X.calm = true) : CallR X (.type "list") (rGB X.K fun m ds => biD m .list ds) := by
  intro pins s σ H vs us Q I r h
  obtain ⟨Z, ph, m, ds, z, wd, rs, hz, q⟩ := h
  obtain ⟨zs, rfl⟩ := biD_list hz
  exact c_listN hc pins s σ H vs us Q I r ⟨Z, ph, m, ds, zs, wd, rs, hz, q.np wd⟩
theorem c_str : CallR X (.type "str") (rGB X.K fun m ds => biD m .str ds) := by
  intro pins s σ H vs us Q I r h
  obtain ⟨Z, ph, m, ds, z, wd, rs, hz, q⟩ := h
  match ds, rs, hz with
  | [.int i], rs, hz =>
    obtain ⟨v, rfl, rv⟩ := rep1 rs
    cases rv
    simp only [biD] at hz
    split at hz
    · rename_i hl
      cases hz
      exact call_str_int pins s σ H _ us Q I r ⟨i, rfl, hl, q.here wd (.str _)⟩
    · cases hz
theorem ints_rep {K : PySem.W.Frag} {Z : Addr → Prop} {ph : List Addr} {H : Hp} : ∀ {ds : List D} {ns : List Int} {vs : List V}, intsD ds = some ns → RepVs K Z ph H vs ds → vs = ns.map V.int
  | [], ns, vs, h, r => by cases h; cases r; rfl
  | d :: ds, ns, vs, h, r => by
    cases r with
    | cons h0 r =>
      cases d <;> simp only [intsD] at h <;> try cases h
      obtain ⟨ms, h1, rfl⟩ := Option.map_eq_some_iff.mp h
      cases h0
      rw [ints_rep h1 r]
      rfl
theorem ints_back {K : PySem.W.Frag} {Z : Addr → Prop} {ph : List Addr} {H : Hp} : ∀ (ns : List Int), RepVs K Z ph H (ns.map V.int) (ns.map D.int)
  | [] => .nil
  | n :: ns => .cons (.int n) (ints_back ns)
theorem bools_rep {K : PySem.W.Frag} {Z : Addr → Prop} {ph : List Addr} {H : Hp} : ∀ {ds : List D} {ns : List Bool} {vs : List V}, bools ds = some ns → RepVs K Z ph H vs ds → vs = ns.map V.bl
  | [], ns, vs, h, r => by cases h; cases r; rfl
  | d :: ds, ns, vs, h, r => by
    cases r with
    | cons h0 r =>
      cases d <;> simp only [bools] at h <;> try cases h
      obtain ⟨ms, h1, rfl⟩ := Option.map_eq_some_iff.mp h
      cases h0
      rw [bools_rep h1 r]
      rfl
theorem c_sum (hc : X.calm = true) : CallR X (.builtin "sum") (rGB X.K fun m ds => biD m .sum ds) := by
  intro pins s σ H vs us Q I r h
  obtain ⟨Z, ph, m, ds, z, wd, rs, hz, q⟩ := h
  match ds, rs, hz with
  | [d], rs, hz =>
    obtain ⟨v, rfl, rv⟩ := rep1 rs
    simp only [biD] at hz
    split at hz
    · rename_i xs e
      obtain ⟨ns, hn, rfl⟩ := Option.map_eq_some_iff.mp hz
      obtain ⟨a, ws, rfl, h1, r1⟩ := rd_lst wd rv e
      rw [ints_rep hn r1] at h1
      exact cr_sum hc pins s σ H _ us Q I r ⟨a, ns, rfl, SqL.of h1, q.here wd (.int _)⟩
    · cases hz
theorem c_all (hc : X.calm = true) : CallR X (.builtin "all") (rGB X.K fun m ds => biD m .all ds) := by
  intro pins s σ H vs us Q I r h
  obtain ⟨Z, ph, m, ds, z, wd, rs, hz, q⟩ := h
  match ds, rs, hz with
  | [d], rs, hz =>
    obtain ⟨v, rfl, rv⟩ := rep1 rs
    simp only [biD] at hz
    split at hz
    · rename_i xs e
      obtain ⟨ns, hn, rfl⟩ := Option.map_eq_some_iff.mp hz
      obtain ⟨a, ws, rfl, h1, r1⟩ := rd_lst wd rv e
      rw [bools_rep hn r1] at h1
      exact cr_all hc pins s σ H _ us Q I r ⟨a, ns, rfl, SqL.of h1, q.here wd (.bl _)⟩
    · cases hz
theorem c_any (hc : X.calm = true) : CallR X (.builtin "any") (rGB X.K fun m ds => biD m .any ds) := by
  intro pins s σ H vs us Q I r h
  obtain ⟨Z, ph, m, ds, z, wd, rs, hz, q⟩ := h
  match ds, rs, hz with
  | [d], rs, hz =>
    obtain ⟨v, rfl, rv⟩ := rep1 rs
    simp only [biD] at hz
    split at hz
    · rename_i xs e
      obtain ⟨ns, hn, rfl⟩ := Option.map_eq_some_iff.mp hz
      obtain ⟨a, ws, rfl, h1, r1⟩ := rd_lst wd rv e
      rw [bools_rep hn r1] at h1
      exact cr_any hc pins s σ H _ us Q I r ⟨a, ns, rfl, SqL.of h1, q.here wd (.bl _)⟩
    · cases hz
theorem c_max2 (hc : X.calm = true) : CallR X (.builtin "max") (rGB X.K fun m ds => biD m .max2 ds) := by
  intro pins s σ H vs us Q I r h
  obtain ⟨Z, ph, m, ds, z, wd, rs, hz, q⟩ := h
  match ds, rs, hz with
  | [.int i, .int j], rs, hz =>
    obtain ⟨v, w, rfl, rv, rw'⟩ := rep2 rs
    cases rv; cases rw'; cases hz
    exact call_max2 hc pins s σ H _ us Q I r ⟨_, _, rfl, q.here wd (.int _)⟩
theorem c_min2 (hc : X.calm = true) : CallR X (.builtin "min") (rGB X.K fun m ds => biD m .min2 ds) := by
  intro pins s σ H vs us Q I r h
  obtain ⟨Z, ph, m, ds, z, wd, rs, hz, q⟩ := h
  match ds, rs, hz with
  | [.int i, .int j], rs, hz =>
    obtain ⟨v, w, rfl, rv, rw'⟩ := rep2 rs
    cases rv; cases rw'; cases hz
    exact call_min2 hc pins s σ H _ us Q I r ⟨_, _, rfl, q.here wd (.int _)⟩
theorem c_sorted : CallR X (.builtin "sorted") (rGB X.K fun m ds => biD m .sorted ds) := by
  intro pins s σ H vs us Q I r h
  obtain ⟨Z, ph, m, ds, z, wd, rs, hz, q⟩ := h
  match ds, rs, hz with
  | [d], rs, hz =>
    obtain ⟨v, rfl, rv⟩ := rep1 rs
    simp only [biD] at hz
    obtain ⟨xs, hx, hz⟩ := Option.bind_eq_some_iff.mp hz
    obtain ⟨ns, hn, rfl⟩ := Option.map_eq_some_iff.mp hz
    obtain ⟨a, ws, rfl, h1, r1⟩ := rd_seq wd rv hx
    have ew := ints_rep hn r1
    subst ew
    have fin : ∀ (ns' : List Int) (p : Addr), ns'.Perm ns → ns'.Pairwise (· ≤ ·) → H p = none → Q (.ref p) (upd H p (.lst (ns'.map V.int))) := fun ns' p p1 p2 hp => by
      have e : ns' = sortD ns := sort_uniq (p1.trans (sortD_perm ns).symm) p2 (sortD_sorted ns)
      subst e
      exact (q.np wd).upd wd hp (ints_back _)
    rcases h1 with h1 | h1
    · exact cr_sortedI pins s σ H _ us Q I r ⟨a, ns, rfl, h1, fin⟩
    · exact cr_srtT pins s σ H _ us Q I r ⟨a, ns, rfl, h1, fin⟩
theorem c_min1 (hc : X.calm = true) : CallR X (.builtin "min") (rGB X.K fun m ds => biD m .min1 ds) := by
  intro pins s σ H vs us Q I r h
  obtain ⟨Z, ph, m, ds, z, wd, rs, hz, q⟩ := h
  match ds, rs, hz with
  | [d], rs, hz =>
    obtain ⟨v, rfl, rv⟩ := rep1 rs
    simp only [biD] at hz
    split at hz
    · rename_i xs e
      obtain ⟨ns, hn, hz⟩ := Option.bind_eq_some_iff.mp hz
      obtain ⟨k, hk, rfl⟩ := Option.map_eq_some_iff.mp hz
      obtain ⟨a, ws, rfl, h1, r1⟩ := rd_lst wd rv e
      rw [ints_rep hn r1] at h1
      obtain ⟨l1, l2⟩ := least_ok hk
      refine cr_min hc pins s σ H _ us Q I r ⟨a, ns, rfl, SqL.of h1, List.length_pos_of_mem l1, fun j j1 j2 => ?_⟩
      rw [show j = k from Int.le_antisymm (j2 k l1) (l2 j j1)]
      exact q.here wd (.int _)
    · cases hz
theorem c_max1 (hc : X.calm = true) : CallR X (.builtin "max") (rGB X.K fun m ds => biD m .max1 ds) := by
  intro pins s σ H vs us Q I r h
  obtain ⟨Z, ph, m, ds, z, wd, rs, hz, q⟩ := h
  match ds, rs, hz with
  | [d], rs, hz =>
    obtain ⟨v, rfl, rv⟩ := rep1 rs
    simp only [biD] at hz
    split at hz
    · rename_i xs e
      obtain ⟨ns, hn, hz⟩ := Option.bind_eq_some_iff.mp hz
      obtain ⟨k, hk, rfl⟩ := Option.map_eq_some_iff.mp hz
      obtain ⟨a, ws, rfl, h1, r1⟩ := rd_lst wd rv e
      rw [ints_rep hn r1] at h1
      obtain ⟨l1, l2⟩ := most_ok hk
      refine cr_max hc pins s σ H _ us Q I r ⟨a, ns, rfl, SqL.of h1, List.length_pos_of_mem l1, fun j j1 j2 => ?_⟩
      rw [show j = k from Int.le_antisymm (l2 j j1) (j2 k l1)]
      exact q.here wd (.int _)
    · cases hz
def biNm : BI → Str
  | .len => "len"
  | .int => "int"
  | .tuple => "tuple"
  | .list => "list"
  | .sum => "sum"
  | .all => "all"
  | .any => "any"
  | .max2 => "max"
  | .min2 => "min"
  | .sorted => "sorted"
  | .min1 => "min"
  | .max1 => "max"
  | .str => "str"
theorem n_bi {b : BI} {z : Expr} {zs : List Expr} (hc : X.calm = true) (hg : Gl X (biNm b)) (hm : X.mg (biNm b) = none) (ha : PA X (z :: zs) (tEvA X.K rs))
    (he : starEach (z :: zs) X.env = (false, eval z X.env) :: starEach zs X.env) (hpl : (backTo pos (starEach zs X.env)).any (·.1) = false) :
    PE X (.Call (.Name (biNm b) p) (z :: zs) [] pos) (tEv X.K (rBi_ b rs)) := by
  cases b
  · exact pe_imp (pe_callB c_len hg hm (by decide +kernel) ha (by decide) (by decide) he hpl) fun _ _ _ h => bi_run h
  · exact pe_imp (pe_callTy c_int hg hm (by decide +kernel) ha (by decide) (by decide) he hpl) fun _ _ _ h => bi_run h
  · exact pe_imp (pe_callTy c_tuple hg hm (by decide +kernel) ha (by decide) (by decide) he hpl) fun _ _ _ h => bi_run h
  · exact pe_imp (pe_callTy (c_list hc) hg hm (by decide +kernel) ha (by decide) (by decide) he hpl) fun _ _ _ h => bi_run h
  · exact pe_imp (pe_callB (c_sum hc) hg hm (by decide +kernel) ha (by decide) (by decide) he hpl) fun _ _ _ h => bi_run h
  · exact pe_imp (pe_callB (c_all hc) hg hm (by decide +kernel) ha (by decide) (by decide) he hpl) fun _ _ _ h => bi_run h
  · exact pe_imp (pe_callB (c_any hc) hg hm (by decide +kernel) ha (by decide) (by decide) he hpl) fun _ _ _ h => bi_run h
  · exact pe_imp (pe_callB (c_max2 hc) hg hm (by decide +kernel) ha (by decide) (by decide) he hpl) fun _ _ _ h => bi_run h
  · exact pe_imp (pe_callB (c_min2 hc) hg hm (by decide +kernel) ha (by decide) (by decide) he hpl) fun _ _ _ h => bi_run h
  · exact pe_imp (pe_callB c_sorted hg hm (by decide +kernel) ha (by decide) (by decide) he hpl) fun _ _ _ h => bi_run h
  · exact pe_imp (pe_callB (c_min1 hc) hg hm (by decide +kernel) ha (by decide) (by decide) he hpl) fun _ _ _ h => bi_run h
  · exact pe_imp (pe_callB (c_max1 hc) hg hm (by decide +kernel) ha (by decide) (by decide) he hpl) fun _ _ _ h => bi_run h
  · exact pe_imp (pe_callTy c_str hg hm (by decide +kernel) ha (by decide) (by decide) he hpl) fun _ _ _ h => bi_run h
theorem n_listN {z : Expr} {zs : List Expr} (hc : X.calm = true) (hg : Gl X "list") (hm : X.mg "list" = none) (ha : PA X (z :: zs) (tEvA X.K rs))
    (he : starEach (z :: zs) X.env = (false, eval z X.env) :: starEach zs X.env) (hpl : (backTo pos (starEach zs X.env)).any (·.1) = false) :
    PE X (.Call (.Name "list" p) (z :: zs) [] pos) (tEvN X.K (rBi_ .list rs)) :=
  pe_imp (pe_callTy (c_listN hc) hg hm (by decide +kernel) ha (by decide) (by decide) he hpl) fun _ _ _ h => bi_runN h
end
end Pv

namespace Pv
open PySem L2
section
variable {X : Cx} {x y w : Expr} {pos p p2 apos : Pos} {ra rb rc : RE}

/-! ### isinstance -/
def tyS : Ty → String
  | .int => "int" | .bool => "bool" | .str => "str" | .tuple => "tuple"
def tyNm : Ty → Str
  | .int => "int" | .bool => "bool" | .str => "str" | .tuple => "tuple"
def dTy : D → Option String
  | .non => some "NoneType" | .bl _ => some "bool" | .int _ => some "int" | .str _ => some "str" | .tup _ => some "tuple" | .lst _ => some "list" | _ => none
theorem rep_ty {K : PySem.W.Frag} {Z : Addr → Prop} {ph : List Addr} {H : Hp} {v : V} {d : D} {t : String} (r : RepV K Z ph H v d) (h : dTy d = some t) : TyX K H v (.type t) := by
  cases r with
  | non => cases h; exact .base .non
  | bl b => cases h; exact .base (.bl b)
  | int i => cases h; exact .base (.int i)
  | str x => cases h; exact .base (.str x)
  | tup h1 r =>
    cases h
    rcases h1 with (h1 | ⟨o, h1⟩) | ⟨o, its, n, h1, h2, _⟩
    · exact .base (.tup h1)
    · exact .fTuple h1
    · exact .kTuple h1 h2
  | lst h1 n z r => cases h; exact .base (.lst h1)
  | frz h1 r => cases h
  | ref h1 => cases h
theorem isi_kit {d : D} {t : Ty} {k : Bool} (h : isiD d t = some k) : ∃ s, dTy d = some s ∧ kitB s (tyS t) = some k := by
  cases d <;> cases t <;> simp only [isiD] at h <;> first | (cases h; refine ⟨_, rfl, ?_⟩; decide +kernel) | cases h
def rIsi_ (ra : RE) (t : Ty) : RE := fun env m => (ra env m).bind fun p => (isiD p.1 t).map fun k => (.bl k, p.2)
theorem n_isi {t : Ty} (hg : Gl X "isinstance") (hm : X.mg "isinstance" = none) (hg2 : Gl X (tyNm t)) (hm2 : X.mg (tyNm t) = none) (ha : PE X x (tEv X.K ra)) (hs : ∀ zs, starEach (x :: zs) X.env = (false, eval x X.env) :: starEach zs X.env) :
    PE X (.Call (.Name "isinstance" p) [x, .Name (tyNm t) p2] [] pos) (tEv X.K (rIsi_ ra t)) := by
  have hb : PE X (.Name (tyNm t) p2) (tC (.ty (tyS t))) := by
    cases t <;> exact pe_bltn hg2 hm2 (by decide +kernel) rfl (by decide) (by decide)
  refine pe_imp (pe_callB call_isi hg hm (by decide +kernel) (pa_cons ha (pa_cons hb pa_nil rfl) (hs _)) (by decide) (by decide) (hs _) rfl) fun σ H Q ⟨Z, ph, env, m, re, wd, d, m', e, q⟩ => ?_
  obtain ⟨p, h1, e⟩ := Option.bind_eq_some_iff.mp e
  obtain ⟨k, h2, e⟩ := Option.map_eq_some_iff.mp e
  cases e
  obtain ⟨s, h3, h4⟩ := isi_kit h2
  exact ev_of re wd h1 fun ph1 H1 v s1 w1 re1 r1 => ⟨v, .ty (tyS t), .type s, .type (tyS t), k, rfl, .ty _, rep_ty r1 h3, kit_ty h4, (q.after s1).here w1 (.bl _)⟩

/-! ### list(range(n)) -/
theorem rep_range {K : PySem.W.Frag} {Z : Addr → Prop} {ph : List Addr} {H : Hp} (lo : Int) : ∀ n : Nat, RepVs K Z ph H ((List.range n).map fun (i : Nat) => V.int (lo + (i : Int))) (rangeD lo n) := by
  intro n
  unfold rangeD
  generalize List.range n = l
  induction l with
  | nil => exact .nil
  | cons a l ih => exact .cons (.int _) ih
def rListRg_ (ra : RE) : RE := fun env m => (ra env m).bind fun p => match p.1 with
  | .int n => if rgOk n && decide (n.toNat ≤ lim) then some (.lst (rangeD 0 n.toNat), p.2) else none
  | _ => none
theorem n_listRgN (hc : X.calm = true) (hg : Gl X "list") (hm : X.mg "list" = none) (hg2 : Gl X "range") (hm2 : X.mg "range" = none) (ha : PE X x (tEv X.K ra)) (hs : starEach [x] X.env = (false, eval x X.env) :: starEach [] X.env) :
    PE X (.Call (.Name "list" p) [.Call (.Name "range" p2) [x] [] apos] [] pos) (tEvN X.K (rListRg_ ra)) :=
  pe_imp (pe_listRg hc hg hm (prg_1 hg2 hm2 ha hs) rfl) fun σ H Q ⟨Z, ph, env, m, re, wd, d, m', e, q⟩ => by
    obtain ⟨p, h1, e⟩ := Option.bind_eq_some_iff.mp e
    refine ev_of re wd h1 fun ph1 H1 v s1 w1 re1 r1 => ?_
    split at e
    · rename_i n hn
      rw [hn] at r1
      cases r1
      split at e
      · rename_i hk
        simp only [rgOk, Bool.and_eq_true, decide_eq_true_eq] at hk
        cases e
        refine ⟨n, rfl, ⟨by omega, by omega, hk.1.1, hk.1.2, ?_⟩, fun l hl => ?_⟩
        · have := hk.2
          unfold lim at this
          show (n - 0).toNat ≤ 2 ^ 24
          rw [Int.sub_zero]
          omega
        · have := rep_range (K := X.K) (Z := Z) (ph := ph1) (H := H1) 0 n.toNat
          have e : rgV 0 n = (List.range n.toNat).map fun (i : Nat) => V.int (0 + (i : Int)) := by unfold rgV; rw [Int.sub_zero]
          rw [e]
          exact (q.after s1).upd w1 hl this
      · cases e
    · cases e
theorem rListRg_lst {env : Env} {m m' : M} {d : D} (h : rListRg_ ra env m = some (d, m')) : ∃ ds, d = .lst ds := by
  obtain ⟨p, h1, e⟩ := Option.bind_eq_some_iff.mp h
  split at e
  · split at e
    · cases e; exact ⟨_, rfl⟩
    · cases e
  · cases e

/-! ### items, slices -/
def rIx_ (ra rb : RE) : RE := fun env m => (ra env m).bind fun p => (rb env p.2).bind fun q => (ixD q.2 p.1 q.1).map fun d => (d, q.2)
theorem ixAt_eq (n : Nat) (i : Int) : ixAt n i = ixN n i := rfl
theorem at_rep {K : PySem.W.Frag} {Z : Addr → Prop} {ph : List Addr} {H : Hp} {vs : List V} {ds : List D} {i : Int} {d : D} (r : RepVs K Z ph H vs ds) (h : atD ds i = some d) : ∃ v, atI vs i = some v ∧ RepV K Z ph H v d := by
  obtain ⟨j, h1, h2⟩ := Option.bind_eq_some_iff.mp h
  obtain ⟨v, h3, r1⟩ := r.get h2
  refine ⟨v, ?_, r1⟩
  unfold atI
  rw [r.len, ← ixAt_eq, h1]
  exact h3
theorem n_ix (ha : PE X x (tEv X.K ra)) (hb : PE X y (tEv X.K rb)) (hs : PlainIx y) : PE X (.Subscript x y pos) (tEv X.K (rIx_ ra rb)) :=
  pe_imp (pe_ix ix_seq ha hb hs) fun σ H Q ⟨Z, ph, env, m, re, wd, d, m', e, q⟩ => by
    obtain ⟨p, h1, e⟩ := Option.bind_eq_some_iff.mp e
    obtain ⟨p2, h2, e⟩ := Option.bind_eq_some_iff.mp e
    obtain ⟨z, h3, e⟩ := Option.map_eq_some_iff.mp e
    cases e
    refine ev_of re wd h1 fun ph1 H1 v s1 w1 re1 r1 => ev_of re1 w1 h2 fun ph2 H2 w s2 w2 re2 r2 => ?_
    have r1 := r1.mono s2
    unfold ixD at h3
    split at h3
    · rename_i i hi
      rw [hi] at r2
      cases r2
      split at h3
      · rename_i xs e
        obtain ⟨a, vs, rfl, h4, r4⟩ := rd_tup r1 e
        obtain ⟨u, h5, r5⟩ := at_rep r4 h3
        exact .inr (.inl ⟨a, vs, i, u, rfl, rfl, h4, h5, (q.after (s1.trans s2)).here w2 r5⟩)
      · rename_i xs e
        obtain ⟨a, vs, rfl, h4, r4⟩ := rd_lst w2 r1 e
        obtain ⟨u, h5, r5⟩ := at_rep r4 h3
        exact .inl ⟨a, vs, i, u, rfl, rfl, SqL.of h4, h5, (q.after (s1.trans s2)).here w2 r5⟩
      · rename_i xs e
        obtain ⟨a, vs, rfl, h4, r4⟩ := rd_frz r1 e
        obtain ⟨u, h5, r5⟩ := at_rep r4 h3
        exact .inl ⟨a, vs, i, u, rfl, rfl, h4.sqL, h5, (q.after (s1.trans s2)).here w2 r5⟩
      · rename_i t e
        split at h3
        · rename_i hl
          obtain ⟨c, h4, h5⟩ := Option.map_eq_some_iff.mp h3
          cases h5
          obtain rfl := rd_str r1 (by assumption)
          exact .inr (.inr ⟨t, i, c, rfl, rfl, by rw [← lim_eq]; exact hl, h4, (q.after (s1.trans s2)).here w2 (.str _)⟩)
        · cases h3
      · cases h3
    · cases h3
theorem sIx_eq (n d : Nat) (o : Option Int) : sIx n d o = HT.sIx n d o := by cases o <;> rfl
theorem cut_rep {K : PySem.W.Frag} {Z : Addr → Prop} {ph : List Addr} {H : Hp} {vs : List V} {ds : List D} (r : RepVs K Z ph H vs ds) (lo hi : Option Int) : RepVs K Z ph H (cutV vs lo hi) (cutD ds lo hi) := by
  unfold cutV cutD
  rw [r.len, sIx_eq, sIx_eq]
  exact (r.drop _).take _
def tEvO (K : PySem.W.Frag) (r : Env → M → Option (Option Int × M)) : TO := fun σ H Q => ∃ Z ph env m, RepE K Z ph H σ env ∧ Wd K Z ph m H ∧ ∃ i m', r env m = some (i, m') ∧ ∀ ph' H', Sx ph H ph' H' → Wd K Z ph' m' H' → Q i H'
theorem po_imp {e : Option Expr} {t t' : TO} (h : PO X e t) (i : ∀ σ H Q, t' σ H Q → t σ H Q) : PO X e t' := ⟨fun pins s σ H Q I w => h.run pins s σ H Q I (i σ H Q w)⟩
theorem o_none {r : RE} : PO X none (tEvO X.K (partO r true)) := po_imp po_none fun σ H Q ⟨Z, ph, env, m, re, wd, d, m', e, q⟩ => by
  simp only [partO, if_true] at e
  cases e
  exact q ph H Sx.refl wd
theorem o_some (ha : PE X x (tEv X.K ra)) : PO X (some x) (tEvO X.K (partO ra false)) := po_imp (po_some ha) fun σ H Q ⟨Z, ph, env, m, re, wd, d, m', e, q⟩ => by
  simp only [partO, Bool.false_eq_true, if_false] at e
  obtain ⟨p, h1, e⟩ := Option.bind_eq_some_iff.mp e
  refine ev_of re wd h1 fun ph1 H1 v s1 w1 re1 r1 => ?_
  split at e
  · rename_i i hi
    rw [hi] at r1
    cases r1
    cases e
    exact ⟨i, rfl, q ph1 H1 s1 w1⟩
  · cases e
def rSl_ (ra : RE) (rl rh : Env → M → Option (Option Int × M)) : RE := fun env m => (ra env m).bind fun p => (rl env p.2).bind fun l => (rh env l.2).bind fun h => (slD h.2 p.1 l.1 h.1).map fun d => (d, h.2)
theorem n_sl {l h : Option Expr} {rl rh : Env → M → Option (Option Int × M)} (ha : PE X x (tEv X.K ra)) (hl : PO X l (tEvO X.K rl)) (hh : PO X h (tEvO X.K rh)) : PE X (.Subscript x (.Slice l h none p2) pos) (tEv X.K (rSl_ ra rl rh)) :=
  pe_imp (pe_slice ((sl_tupA.or sl_list).or sl_str) ha hl hh) fun σ H Q ⟨Z, ph, env, m, re, wd, d, m', e, q⟩ => by
    obtain ⟨p, h1, e⟩ := Option.bind_eq_some_iff.mp e
    obtain ⟨lo, h2, e⟩ := Option.bind_eq_some_iff.mp e
    obtain ⟨hi, h3, e⟩ := Option.bind_eq_some_iff.mp e
    obtain ⟨z, h4, e⟩ := Option.map_eq_some_iff.mp e
    cases e
    refine ev_of re wd h1 fun ph1 H1 v s1 w1 re1 r1 => ⟨Z, ph1, env, p.2, re1, w1, lo.1, lo.2, h2, fun ph2 H2 s2 w2 => ⟨Z, ph2, env, lo.2, re1.mono s2, w2, hi.1, hi.2, h3, fun ph3 H3 s3 w3 => ?_⟩⟩
    have r1 := (r1.mono s2).mono s3
    have q := q.after ((s1.trans s2).trans s3)
    unfold slD at h4
    split at h4
    · rename_i xs he
      cases h4
      obtain ⟨a, vs, rfl, h4, r4⟩ := rd_tup r1 he
      refine .inl (.inl ⟨a, vs, rfl, h4, fun ⟨e1, e2⟩ => ?_, fun _ b hb => q.tup w3 hb (cut_rep r4 _ _)⟩)
      have ec : cutD xs lo.1 hi.1 = xs := by
        unfold cutD
        rw [r4.len, ← sIx_eq] at e1
        rw [r4.len, ← sIx_eq] at e2
        rw [e1, e2, List.drop_zero, Nat.sub_zero, List.take_length]
      rw [ec] at q
      exact q.here w3 (.tup h4 r4)
    · rename_i xs he
      cases h4
      obtain ⟨a, vs, rfl, h4, r4⟩ := rd_lst w3 r1 he
      exact .inl (.inr ⟨a, vs, rfl, SqL.of h4, fun b hb => (q.np w3).upd w3 hb (cut_rep r4 _ _)⟩)
    · rename_i xs he
      cases h4
      obtain ⟨a, vs, rfl, h4, r4⟩ := rd_frz r1 he
      exact .inl (.inr ⟨a, vs, rfl, h4.sqL, fun b hb => (q.np w3).upd w3 hb (cut_rep r4 _ _)⟩)
    · rename_i z he
      split at h4
      · rename_i hz
        cases h4
        obtain rfl := rd_str r1 he
        have ec : cutT z lo.1 hi.1 = cutS z lo.1 hi.1 := by unfold cutT cutS; rw [sIx_eq, sIx_eq]
        rw [ec] at q
        exact .inr ⟨z, rfl, by rw [← lim_eq]; exact hz, q.here w3 (.str _)⟩
      · cases h4
    · cases h4

/-! ### list methods -/
def rPop_ (ra : RE) : RE := fun env m => (ra env m).bind fun p => match p.1 with
  | .ref l => match p.2[l]? with
    | some (.lst xs) => match xs[xs.length - 1]? with
      | some y => some (y, p.2.set l (.lst xs.dropLast))
      | none => none
    | none => none
  | _ => none
theorem w_put {K : PySem.W.Frag} {Z : Addr → Prop} {ph ph0 : List Addr} {H H0 : Hp} {m : M} {l : Nat} {a : Addr} {us : List V} {es : List D} {v : V} {z : D} {Q : VK} (wd : Wd K Z ph m H) (ha : ph[l]? = some a) (r : RepVs K Z ph H us es) (rv : RepV K Z ph H v z) (q : PV K Z ph H (m.set l (.lst es)) z Q) : Q v (L2.upd H a (.lst us)) :=
  q ph _ v (Sx.write wd ha) (wd.write ha r) (rv.mono (Sx.write wd ha))
theorem n_pop {sv : Str} {ps : Pos} (ha : PE X (.Name sv ps) (tEv X.K ra)) (hl : (apos.endLine == pos.line) = true) : PE X (.Call (.Attribute (.Name sv ps) "pop" apos) [] [] pos) (tEv X.K (rPop_ ra)) :=
  pe_imp (pe_bm0 PySem.F.plainAttrs_list PySem.F.slot_list_pop PySem.F.type_list_pop mt_pop ha rfl hl) fun σ H Q ⟨Z, ph, env, m, re, wd, d, m', e, q⟩ => by
    obtain ⟨p, h1, e⟩ := Option.bind_eq_some_iff.mp e
    refine ev_of re wd h1 fun ph1 H1 v s1 w1 re1 r1 => ?_
    split at e
    · rename_i l hp
      rw [hp] at r1
      cases r1 with
      | @ref a l ha =>
        split at e
        · rename_i xs hx
          split at e
          · rename_i y hy
            cases e
            obtain ⟨vs, h2, r2⟩ := w1.at hx ha
            obtain ⟨u, h3, r3⟩ := r2.get hy
            refine ⟨.inl ⟨rfl, _, SqL.of h2⟩, a, vs, u, rfl, rfl, h2, by rw [r2.len]; exact h3, ?_⟩
            exact w_put (ph0 := ph1) (H0 := H1) w1 ha r2.dropLast r3 (q.after s1)
          · cases e
        · cases e
    · cases e
def rPopAt_ (ra rb : RE) : RE := fun env m => (ra env m).bind fun p => (rb env p.2).bind fun q => match p.1, q.1 with
  | .ref l, .int i => match q.2[l]? with
    | some (.lst xs) => match ixAt xs.length i with
      | some k => match xs[k]? with
        | some y => if decide (-(2 ^ 63) ≤ i) && decide (i < 2 ^ 63) then some (y, q.2.set l (.lst (xs.eraseIdx k))) else none
        | none => none
      | none => none
    | none => none
  | _, _ => none
theorem few1 {y : Expr} (hs : starEach [y] X.env = (false, eval y X.env) :: starEach [] X.env) : ((backTo pos (starEach [y] X.env)).all (fun x => !x.1) && (backToKw pos (keywordEach [] X.env)).all (fun x => x.1.isSome)
      && decide (([y]).length + ([] : List Keyword).length + (if ([] : List Keyword).isEmpty then 0 else 1) < 30)) = true := by
  rw [hs]; rfl
theorem n_popAt {sv : Str} {ps : Pos} (ha : PE X (.Name sv ps) (tEv X.K ra)) (hb : PE X y (tEv X.K rb)) (hl : (apos.endLine == pos.line) = true) (hs : starEach [y] X.env = (false, eval y X.env) :: starEach [] X.env) :
    PE X (.Call (.Attribute (.Name sv ps) "pop" apos) [y] [] pos) (tEv X.K (rPopAt_ ra rb)) :=
  pe_imp (pe_bm PySem.F.plainAttrs_list PySem.F.slot_list_pop PySem.F.type_list_pop mt_popAt ha (pa_cons hb pa_nil hs) rfl (few1 hs) hl hs rfl) fun σ H Q ⟨Z, ph, env, m, re, wd, d, m', e, q⟩ => by
    obtain ⟨p, h1, e⟩ := Option.bind_eq_some_iff.mp e
    obtain ⟨p2, h2, e⟩ := Option.bind_eq_some_iff.mp e
    split at e
    · rename_i l i hp hi
      refine ev_of re wd h1 fun ph1 H1 v s1 w1 re1 r1 => ?_
      have r1' := r1
      rw [hp] at r1
      cases r1 with
      | @ref a l ha =>
        have hm : ∃ vs, H1 a = some (.lst vs) := w1.lst (List.mem_of_getElem? ha)
        obtain ⟨vs0, hv0⟩ := hm
        refine ⟨.inl ⟨rfl, _, SqL.of hv0⟩, ev_of re1 w1 h2 fun ph2 H2 w s2 w2 re2 r2 => ?_⟩
        have ha2 : ph2[l]? = some a := by
          obtain ⟨x, ex⟩ := s2.ext
          rw [ex, List.getElem?_append_left (List.getElem?_eq_some_iff.mp ha).1]
          exact ha
        rw [hi] at r2
        cases r2
        split at e
        · rename_i xs hx
          split at e
          · rename_i k hk
            split at e
            · rename_i z hz
              split at e
              · rename_i hb
                simp only [Bool.and_eq_true, decide_eq_true_eq] at hb
                cases e
                obtain ⟨vs, h3, r3⟩ := w2.at hx ha2
                obtain ⟨u, h4, r4⟩ := r3.get hz
                refine ⟨a, vs, i, k, u, rfl, rfl, h3, hb.1, hb.2, by rw [r3.len]; exact (ixN_seq hk).1, h4, ?_⟩
                exact w_put (ph0 := ph1) (H0 := H1) w2 ha2 (r3.erase k) r4 (q.after (s1.trans s2))
              · cases e
            · cases e
          · cases e
        · cases e
    · cases e
def rAppend_ (ra rb : RE) : RE := fun env m => (ra env m).bind fun p => (rb env p.2).bind fun q => match p.1 with
  | .ref l => match q.2[l]? with
    | some (.lst xs) => if xs.length < lim then some (.non, q.2.set l (.lst (xs ++ [q.1]))) else none
    | none => none
  | _ => none
theorem n_append {sv : Str} {ps : Pos} (ha : PE X (.Name sv ps) (tEv X.K ra)) (hb : PE X y (tEv X.K rb)) (hl : (apos.endLine == pos.line) = true) (hs : starEach [y] X.env = (false, eval y X.env) :: starEach [] X.env) :
    PE X (.Call (.Attribute (.Name sv ps) "append" apos) [y] [] pos) (tEv X.K (rAppend_ ra rb)) :=
  pe_imp (pe_bm PySem.F.plainAttrs_list PySem.F.slot_list_append PySem.F.type_list_append mt_append ha (pa_cons hb pa_nil hs) rfl (few1 hs) hl hs rfl) fun σ H Q ⟨Z, ph, env, m, re, wd, d, m', e, q⟩ => by
    obtain ⟨p, h1, e⟩ := Option.bind_eq_some_iff.mp e
    obtain ⟨p2, h2, e⟩ := Option.bind_eq_some_iff.mp e
    split at e
    · rename_i l hp
      refine ev_of re wd h1 fun ph1 H1 v s1 w1 re1 r1 => ?_
      rw [hp] at r1
      cases r1 with
      | @ref a l ha =>
        have hm : ∃ vs, H1 a = some (.lst vs) := w1.lst (List.mem_of_getElem? ha)
        obtain ⟨vs0, hv0⟩ := hm
        refine ⟨.inl ⟨rfl, _, SqL.of hv0⟩, ev_of re1 w1 h2 fun ph2 H2 w s2 w2 re2 r2 => ?_⟩
        have ha2 : ph2[l]? = some a := by
          obtain ⟨x, ex⟩ := s2.ext
          rw [ex, List.getElem?_append_left (List.getElem?_eq_some_iff.mp ha).1]
          exact ha
        split at e
        · rename_i xs hx
          split at e
          · rename_i hb
            cases e
            obtain ⟨vs, h3, r3⟩ := w2.at hx ha2
            refine ⟨a, vs, w, rfl, rfl, h3, by rw [r3.len, ← lim_eq]; exact hb, ?_⟩
            exact w_put (ph0 := ph1) (H0 := H1) w2 ha2 (r3.append (.cons r2 .nil)) .non (q.after (s1.trans s2))
          · cases e
        · cases e
    · cases e
end
end Pv

namespace Pv
open PySem PySem.Spec PyProof.Rows L2
section
variable {X : Cx} {x y w e : Expr} {te : TE} {pos : Pos} {ra rb rc : RE}
theorem rev_all (z : Str) : ((Builtin.Str.strSliceIndices none none (-1) z.length).filterMap (z.cps[·]?)).toArray = (revT z).cps := by
  rw [PyProof.Rows.picked_rev, PySem.W.krv_range]
  show ((List.range z.cps.size).reverse.filterMap (z.cps[·]?)).toArray = z.cps.toList.reverse.toArray
  rw [List.filterMap_reverse, PySem.W.krv_all]
theorem pe_revA {k : Nat} {p1 p2 p3 : Pos} (he : PE X e te) : PE X (.Subscript e (.Slice none none (some (.UnaryOp .USub (.Constant (.int 1) k p1) p2)) p3) pos) (fun σ H Q => te σ H fun x H1 =>
    (∃ a xs, x = .ref a ∧ SqL X.K H1 a xs ∧ ∀ p, H1 p = none → Q (.ref p) (upd H1 p (.lst xs.reverse))) ∨ ∃ z, x = .str z ∧ z.length ≤ sizeLine ∧ Q (.str (revT z)) H1) := by
  refine ⟨fun pins s σ H Q I h => ?_⟩
  refine Subscript_ (thn (he.run pins s σ H _ I h) fun v s1 ⟨x, H1, I1, r1, q1⟩ => ?_)
  have hst : PO X (some (.UnaryOp .USub (.Constant (.int 1) k p1) p2)) (tPart (tUn (rU fun i => .int (-i)) (tC (.int 1)))) := po_some (pe_un un_neg pe_int)
  refine wpAny_Slice (thn (po_none.run pins s1 σ H1 (fun o H2 => o = none ∧ H2 = H1) I1 ⟨rfl, rfl⟩) fun vl s2 ⟨l, H2, I2, pl, el, e2⟩ => ?_)
  subst el e2
  refine thn (po_none.run pins s2 σ H2 (fun o H3 => o = none ∧ H3 = H2) I2 ⟨rfl, rfl⟩) fun vu s3 ⟨u, H3, I3, pu, eu, e3⟩ => ?_
  subst eu e3
  refine thn (hst.run pins s3 σ H3 (fun o H4 => o = some (-1) ∧ H4 = H3) I3 ⟨1, rfl, -1, rfl, rfl, rfl⟩) fun vs s4 ⟨o, H4, I4, ps, eo, e4⟩ => ?_
  subst eo e4
  have I5 : Inv X pins σ H4 { s4 with heap := s4.heap.push { cls := .type "slice", data := .fields #[vl, vu, vs] } } := I4.kept (t' := s4.toks) fun b ob q => Heap.get?_push_of_some _ q
  show wpAny (model X.prog X.w) X.A (subscriptTail e (.Slice none none (some (.UnaryOp .USub (.Constant (.int 1) k p1) p2)) p3) v (.ref s4.heap.objs.size)) (EP X pins σ Q) X.xe { s4 with heap := s4.heap.push { cls := .type "slice", data := .fields #[vl, vu, vs] } }
  rcases q1 with ⟨a, xs, ex, hx, q⟩ | ⟨z, ex, hz, q⟩
  · subst ex
    cases r1
    obtain ⟨its, r, ht, hz⟩ := I5.list hx
    have hlen := r.length
    refine tail_any (ops := [.ref a, .ref s4.heap.objs.size]) ht.isList.typeIs (PySem.slot_list_getitem.lookup) ?_ (by with_unfolding_all rfl)
    refine wpAny_getItem_list_slice ht.isList (Heap.IsSliceOf.new _ vl vu vs) pl pu ps (by decide) ?_ (by rw [List.size_toArray]; omega)
    rw [PySem.W.krv_pick]
    refine ⟨.ref _, _, I5.laid (t' := s4.toks) (o := .lst xs.reverse) (fun b ob q => Heap.get?_push_of_some _ q) (Nat.le_refl _) ?_, rfl, q _ (I5.hok.fresh (Nat.le_refl _))⟩
    exact ⟨by rw [List.length_reverse]; exact hz, _, 0, r.reverse, Heap.get?_push_size _ rfl⟩
  · subst ex
    obtain ⟨t, rfl⟩ := r1
    obtain ⟨l, rfl, hl⟩ := IsPart.raw pl
    obtain ⟨u, rfl, hu⟩ := IsPart.raw pu
    obtain ⟨st, rfl, hst⟩ := IsPart.raw ps
    refine tail_any (ops := [.ref s4.heap.objs.size, .str z t]) (typeIs_str _ _ _) (F.slot_str_getitem.lookup) ?_ (by with_unfolding_all rfl)
    refine wpAny_getItem_str_slice (l := l) (u := u) (st := st) ⟨_, Heap.get?_push_size _ rfl, rfl, rfl⟩ (by rw [hst]; rfl) ?_
    have e1 : sliceMade z t l u st = Made.str (revT z) := by
      unfold sliceMade slicePicked
      rw [hst, hl, hu]
      show (if (((-1 : Int) == 1) && _) = true then _ else Made.str ⟨((Builtin.Str.strSliceIndices none none (-1) z.length).filterMap (z.cps[·]?)).toArray⟩) = _
      rw [if_neg (by simp), rev_all]
    rw [e1]
    refine ⟨?_, .str _, H4, I5.tok _, ⟨_, rfl⟩, q⟩
    show (z.cps.toList.reverse.toArray).size ≤ sizeLine
    rw [List.size_toArray, List.length_reverse, Array.length_toList]
    exact hz
def rRev_ (ra : RE) : RE := fun env m => (ra env m).bind fun p => (revD p.2 p.1).map fun d => (d, p.2)
theorem rep_rev {K : PySem.W.Frag} {Z : Addr → Prop} {ph : List Addr} {H : Hp} : ∀ {vs : List V} {ds : List D}, RepVs K Z ph H vs ds → RepVs K Z ph H vs.reverse ds.reverse
  | _, _, .nil => .nil
  | v :: vs, d :: ds, .cons h r => by
    rw [List.reverse_cons, List.reverse_cons]
    exact (rep_rev r).append (.cons h .nil)
theorem n_rev {k : Nat} {p1 p2 p3 : Pos} (ha : PE X x (tEv X.K ra)) : PE X (.Subscript x (.Slice none none (some (.UnaryOp .USub (.Constant (.int 1) k p1) p2)) p3) pos) (tEv X.K (rRev_ ra)) :=
  pe_imp (pe_revA ha) fun σ H Q ⟨Z, ph, env, m, re, wd, d, m', e, q⟩ => by
    obtain ⟨p, h1, e⟩ := Option.bind_eq_some_iff.mp e
    obtain ⟨z, h2, e⟩ := Option.map_eq_some_iff.mp e
    cases e
    refine ev_of re wd h1 fun ph1 H1 v s1 w1 re1 r1 => ?_
    have q := q.after s1
    unfold revD at h2
    split at h2
    · rename_i xs he
      cases h2
      obtain ⟨a, vs, rfl, h4, r4⟩ := rd_lst w1 r1 he
      exact .inl ⟨a, vs, rfl, SqL.of h4, fun b hb => (q.np w1).upd w1 hb (rep_rev r4)⟩
    · rename_i z he
      split at h2
      · rename_i hz
        cases h2
        obtain rfl := rd_str r1 he
        exact .inr ⟨z, rfl, by rw [← lim_eq]; exact hz, q.here w1 (.str _)⟩
      · cases h2
    · cases h2
theorem strs_rep {K : PySem.W.Frag} {Z : Addr → Prop} {ph : List Addr} {H : Hp} : ∀ {ds : List D} {ns : List Str} {vs : List V}, strsD ds = some ns → RepVs K Z ph H vs ds → vs = ns.map V.str
  | [], ns, vs, h, r => by cases h; cases r; rfl
  | d :: ds, ns, vs, h, r => by
    cases r with
    | cons h0 r =>
      cases d <;> simp only [strsD] at h <;> try cases h
      obtain ⟨ms, h1, rfl⟩ := Option.map_eq_some_iff.mp h
      cases h0
      rw [strs_rep h1 r]
      rfl
def rJoin_ (ra rb : RE) : RE := fun env m => (ra env m).bind fun p => (rb env p.2).bind fun q => (joinD q.2 p.1 q.1).map fun d => (d, q.2)
theorem n_join {c : Const} {k : Nat} {pc apos : Pos} (ha : PE X (.Constant c k pc) (tEv X.K ra)) (hb : PE X y (tEv X.K rb)) (hl : (apos.endLine == pos.line) = true) (hs : starEach [y] X.env = [(false, eval y X.env)]) :
    PE X (.Call (.Attribute (.Constant c k pc) "join" apos) [y] [] pos) (tEv X.K (rJoin_ ra rb)) :=
  pe_imp (pe_join ha hb hs rfl hl) fun σ H Q ⟨Z, ph, env, m, re, wd, d, m', e, q⟩ => by
    obtain ⟨p, h1, e⟩ := Option.bind_eq_some_iff.mp e
    obtain ⟨p2, h2, e⟩ := Option.bind_eq_some_iff.mp e
    obtain ⟨d', h3, e⟩ := Option.map_eq_some_iff.mp e
    cases e
    have hs : ∃ a, p.1 = .str a := by
      unfold joinD at h3
      split at h3
      · exact ⟨_, ‹_›⟩
      · cases h3
    obtain ⟨a, hp⟩ := hs
    rw [hp] at h3
    refine ev_of re wd h1 fun ph1 H1 v s1 w1 re1 r1 => ?_
    rw [hp] at r1
    cases r1
    refine ⟨⟨a, rfl⟩, ev_of re1 w1 h2 fun ph2 H2 w s2 w2 re2 r2 => ?_⟩
    have q := q.after (s1.trans s2)
    · simp only [joinD] at h3
      obtain ⟨ys, e1, h3⟩ := Option.bind_eq_some_iff.mp h3
      obtain ⟨ss, e2, h3⟩ := Option.bind_eq_some_iff.mp h3
      split at h3
      · rename_i hz
        cases h3
        obtain ⟨b, ws, rfl, h4, r4⟩ := rd_seq w2 r2 e1
        rw [strs_rep e2 r4] at h4
        rw [← TL.join_eq] at q
        exact ⟨a, b, ss, rfl, rfl, h4, hz, q.here w2 (.str _)⟩
      · cases h3
def rFmt_ (ra : RE) : RE := fun env m => (ra env m).bind fun p => (txtD p.1).map fun d => (d, p.2)
theorem n_fmt (ha : PE X x (tEv X.K ra)) : PE X (.FormattedValue x (-1) none pos) (tEv X.K (rFmt_ ra)) :=
  pe_imp (pe_fmt ha) fun σ H Q ⟨Z, ph, env, m, re, wd, d, m', e, q⟩ => by
    obtain ⟨p, h1, e⟩ := Option.bind_eq_some_iff.mp e
    obtain ⟨z, h2, e⟩ := Option.map_eq_some_iff.mp e
    cases e
    refine ev_of re wd h1 fun ph1 H1 v s1 w1 re1 r1 => ?_
    have q := q.after s1
    unfold txtD at h2
    split at h2
    · rename_i z he
      split at h2
      · rename_i hz
        cases h2
        rw [he] at r1
        cases r1
        exact .inl ⟨z, rfl, by rw [← lim_eq]; exact hz, q.here w1 (.str _)⟩
      · cases h2
    · rename_i i he
      split at h2
      · rename_i hz
        cases h2
        rw [he] at r1
        cases r1
        exact .inr ⟨i, rfl, hz, q.here w1 (.str _)⟩
      · cases h2
    · cases h2
section
variable (K : PySem.W.Frag) (F : Fn) (G : List D)
def tesOf : Es → List TE
  | .nil => []
  | .cons e es => tEv K (fun env m => evE F G e env m) :: tesOf es
end
theorem js_run {K : PySem.W.Frag} {F : Fn} {G : List D} {σ : L2.St} {Q : Str → Hp → Prop} {Z : Addr → Prop} {env : Env} : ∀ (as : Es) (acc : Str) {ph : List Addr} {H : Hp} {m m' : M} {ds : List D} {out : Str}, RepE K Z ph H σ env → Wd K Z ph m H → evA F G as env m = some (ds, m') → gluD acc ds = some out →
    (∀ ph' H', Sx ph H ph' H' → Wd K Z ph' m' H' → Q out H') → tJs (tesOf K F G as) acc σ H Q
  | .nil, acc, ph, H, m, m', ds, out, re, wd, h, hg, q => by
    rw [evA] at h
    cases h
    cases hg
    exact q ph H Sx.refl wd
  | .cons e es, acc, ph, H, m, m', ds, out, re, wd, h, hg, q => by
    rw [evA] at h
    obtain ⟨p, h1, h⟩ := Option.bind_eq_some_iff.mp h
    obtain ⟨p2, h2, h⟩ := Option.bind_eq_some_iff.mp h
    cases h
    refine ev_of re wd h1 fun ph1 H1 v s1 w1 re1 r1 => ?_
    cases hp : p.1 with
    | str y =>
      rw [hp] at hg r1
      simp only [gluD] at hg
      split at hg
      · rename_i hz
        cases r1
        exact ⟨y, rfl, by rw [← lim_eq]; exact hz, js_run es _ re1 w1 h2 hg fun ph' H' s w => q ph' H' (s1.trans s) w⟩
      · cases hg
    | _ =>
      rw [hp] at hg
      simp only [gluD] at hg
      cases hg
theorem n_fstr {F : Fn} {G : List D} {as : Es} {z : Expr} {r : List Expr} (h : PJ X (y :: z :: r) (tesOf X.K F G as)) : PE X (.JoinedStr (y :: z :: r) pos) (tEv X.K fun env m => (evA F G as env m).bind fun p => (gluD Str.empty p.1).map fun d => (.str d, p.2)) :=
  pe_imp (pe_joined h) fun σ H Q ⟨Z, ph, env, m, re, wd, d, m', e, q⟩ => by
    obtain ⟨p, h1, e⟩ := Option.bind_eq_some_iff.mp e
    obtain ⟨out, h2, e⟩ := Option.map_eq_some_iff.mp e
    cases e
    exact js_run as Str.empty re wd h1 h2 fun ph' H' s w => (q.after s).here w (.str _)
end
end Pv

namespace Pv
open PySem L2

/-! ## targets -/
theorem wipe_get (σ : L2.St) : ∀ (l : List Nat) (j : Nat), (wipe σ l)[j]? = if j ∈ l then (σ[j]?).map (fun _ => none) else σ[j]?
  | [], j => by simp [wipe]
  | v :: l, j => by
    unfold wipe
    by_cases e : v = j
    · subst e
      rw [if_pos (by simp)]
      by_cases h : v < (wipe σ l).length
      · rw [List.getElem?_set_self h]
        rw [wipe_length] at h
        rw [List.getElem?_eq_getElem h]; rfl
      · rw [List.getElem?_eq_none (by simpa using h)]
        rw [wipe_length] at h
        rw [List.getElem?_eq_none (by omega)]; rfl
    · rw [List.getElem?_set_ne e, wipe_get σ l j]
      by_cases h : j ∈ l
      · rw [if_pos h, if_pos (by simp [h])]
      · rw [if_neg h, if_neg (by simp [h]; exact fun q => e q.symm)]
theorem wipe_set {σ : L2.St} {i : Nat} {o : Option V} {l : List Nat} (h : i ∈ l) : wipe (σ.set i o) l = wipe σ l := by
  apply List.ext_getElem?
  intro j
  rw [wipe_get, wipe_get]
  by_cases e : i = j
  · subst e
    rw [if_pos h, if_pos h]
    by_cases q : i < σ.length
    · rw [List.getElem?_set_self q, List.getElem?_eq_getElem q]; rfl
    · rw [List.getElem?_eq_none (by simpa using q), List.getElem?_eq_none (by omega)]
  · rw [List.getElem?_set_ne e]
theorem wipe_wipe (σ : L2.St) (l : List Nat) : wipe (wipe σ l) l = wipe σ l := by
  apply List.ext_getElem?
  intro j
  rw [wipe_get, wipe_get]
  by_cases h : j ∈ l
  · rw [if_pos h, if_pos h]
    cases σ[j]? <;> rfl
  · rw [if_neg h, if_neg h]
mutual
def tgIn (l : List Nat) : Tg → Bool
  | .nm i => decide (i ∈ l)
  | .tp ts => tgsIn l ts
  | .up ts => tgsIn l ts
def tgsIn (l : List Nat) : Tgs → Bool
  | .nil => true
  | .cons t ts => tgIn l t && tgsIn l ts
end
def gT (K : PySem.W.Frag) (t : Tg) : TG := fun v σ H Q => ∃ Z ph env m d env', RepE K Z ph H σ env ∧ Wd K Z ph m H ∧ RepV K Z ph H v d ∧ bindTg m t d env = some env' ∧
  ∀ σ', RepE K Z ph H σ' env' → (∀ l, tgIn l t = true → wipe σ' l = wipe σ l) → Q σ' H
def gTs (K : PySem.W.Frag) (ts : Tgs) : TGs := fun vs σ H Q => ∃ Z ph env m ds env', RepE K Z ph H σ env ∧ Wd K Z ph m H ∧ RepVs K Z ph H vs ds ∧ bindTgs m ts ds env = some env' ∧
  ∀ σ', RepE K Z ph H σ' env' → (∀ l, tgsIn l ts = true → wipe σ' l = wipe σ l) → Q σ' H
theorem pg_imp {X : Cx} {x : Expr} {t t' : TG} (h : PG X x t) (i : ∀ v σ H Q, t' v σ H Q → t v σ H Q) : PG X x t' := ⟨fun pins s σ H v u Q I r w => h.run pins s σ H v u Q I r (i v σ H Q w)⟩
theorem pgs_imp {X : Cx} {x : List Expr} {t t' : TGs} (h : PGs X x t) (i : ∀ v σ H Q, t' v σ H Q → t v σ H Q) : PGs X x t' := ⟨fun pins s σ H v u Q I r w => h.run pins s σ H v u Q I r (i v σ H Q w)⟩
def locB (S : Sx_) (x : Str) : Bool := match S.sc.names.lookup x with
  | some .local => true
  | some .cell => S.fb x
  | _ => false
theorem locB_ok {X : Cx} {S : Sx_} (hX : XOk X S) {x : Str} (h : locB S x = true) : L2.Loc X.env.scope x ∧ (X.fn x = true ∨ X.env.scope.names.lookup x = some .local) := by
  unfold locB at h
  unfold L2.Loc
  rw [hX.sc, hX.fb]
  split at h
  · rename_i e; exact ⟨.inl e, .inr e⟩
  · rename_i e; exact ⟨.inr e, .inl h⟩
  · cases h
mutual
def isTg (S : Sx_) : Tg → Expr → Bool
  | .nm i, .Name x _ => decide (S.N[i]? = some x) && locB S x
  | .tp ts, .Tuple xs _ _ => isTgs S ts xs
  | .up ts, .Tuple xs _ _ => isTgs S ts xs
  | _, _ => false
def isTgs (S : Sx_) : Tgs → List Expr → Bool
  | .nil, [] => true
  | .cons t ts, x :: xs => isTg S t x && isTgs S ts xs
  | _, _ => false
end
theorem isTg_each {S : Sx_} {t : Tg} {x : Expr} (h : isTg S t x = true) (xs : List Expr) (env : PySem.Env) : assignEach (x :: xs) env = (false, assign x env) :: assignEach xs env := by
  cases t <;> cases x <;> first | rfl | (simp [isTg] at h)
theorem isTgs_each {S : Sx_} : ∀ {ts : Tgs} {xs : List Expr}, isTgs S ts xs = true → ∀ env : PySem.Env, (assignEach xs env).length = xs.length ∧ (assignEach xs env).findIdx? (·.1) = none
  | .nil, [], _, env => ⟨rfl, rfl⟩
  | .cons t ts, x :: xs, h, env => by
    simp only [isTgs, Bool.and_eq_true] at h
    obtain ⟨h1, h2⟩ := isTgs_each h.2 env
    rw [isTg_each h.1]
    refine ⟨by simp [h1], ?_⟩
    rw [List.findIdx?_cons, h2]
    rfl
  | .nil, _ :: _, h, _ => by simp [isTgs] at h
  | .cons _ _, [], h, _ => by simp [isTgs] at h
theorem bindTgs_len {m : M} {S : Sx_} : ∀ {ts : Tgs} {ds : List D} {env env' : Env} {xs : List Expr}, isTgs S ts xs = true → bindTgs m ts ds env = some env' → ds.length = xs.length
  | .nil, [], _, _, [], _, _ => rfl
  | .cons t ts, d :: ds, env, env', x :: xs, h, e => by
    simp only [isTgs, Bool.and_eq_true] at h
    simp only [bindTgs] at e
    obtain ⟨e1, h1, e⟩ := Option.bind_eq_some_iff.mp e
    simp [bindTgs_len h.2 e]
  | .nil, _ :: _, _, _, _, _, e => by simp [bindTgs] at e
  | .cons _ _, [], _, _, _, _, e => by simp [bindTgs] at e
  | .nil, [], _, _, _ :: _, h, _ => by simp [isTgs] at h
  | .cons _ _, _ :: _, _, _, [], h, _ => by simp [isTgs] at h
mutual
theorem okTg {X : Cx} {S : Sx_} (hX : XOk X S) : ∀ (t : Tg) (x : Expr), isTg S t x = true → PG X x (gT X.K t)
  | .nm i, .Name x _, h => by
    simp only [isTg, Bool.and_eq_true, decide_eq_true_eq] at h
    obtain ⟨h1, h2⟩ := locB_ok hX h.2
    exact pg_imp (pg_name (i := i) hX.nd (by rw [hX.n]; exact h.1) h1 h2) fun v σ H Q ⟨Z, ph, env, m, d, env', re, wd, r, e, q⟩ => by
      simp only [bindTg] at e
      cases e
      refine q _ (re.set r i) fun l hl => ?_
      simp only [tgIn, decide_eq_true_eq] at hl
      exact wipe_set hl
  | .tp ts, .Tuple xs _ _, h => by
    simp only [isTg] at h
    obtain ⟨h1, h2⟩ := isTgs_each h X.env
    exact pg_imp (pg_tup (n := xs.length) hX.calm (okTgs hX ts xs h) h1 h2) fun v σ H Q ⟨Z, ph, env, m, d, env', re, wd, r, e, q⟩ => by
      cases d <;> simp only [bindTg] at e <;> try cases e
      cases r with
      | tup h3 r => exact ⟨_, _, rfl, h3, by rw [r.len]; exact bindTgs_len h e, Z, ph, env, m, _, env', re, wd, r, e, fun σ' r' hw => q σ' r' fun l hl => hw l (by simpa [tgIn] using hl)⟩
  | .up ts, .Tuple xs _ _, h => by
    simp only [isTg] at h
    obtain ⟨h1, h2⟩ := isTgs_each h X.env
    exact pg_imp (pg_unl (n := xs.length) hX.calm (okTgs hX ts xs h) h1 h2) fun v σ H Q ⟨Z, ph, env, m, d, env', re, wd, r, e, q⟩ => by
      simp only [bindTg] at e
      split at e
      · rename_i ds hd
        obtain ⟨a, vs, rfl, h3, r⟩ := rd_lst wd r hd
        exact ⟨_, _, rfl, SqL.of h3, by rw [r.len]; exact bindTgs_len h e, Z, ph, env, m, _, env', re, wd, r, e, fun σ' r' hw => q σ' r' fun l hl => hw l (by simpa [tgIn] using hl)⟩
      · cases e
  | .nm _, .BoolOp .., h | .nm _, .NamedExpr .., h | .nm _, .BinOp .., h | .nm _, .UnaryOp .., h | .nm _, .Lambda .., h | .nm _, .IfExp .., h | .nm _, .Dict .., h | .nm _, .Set .., h | .nm _, .ListComp .., h | .nm _, .SetComp .., h | .nm _, .DictComp .., h | .nm _, .GeneratorExp .., h
  | .nm _, .Await .., h | .nm _, .Yield .., h | .nm _, .YieldFrom .., h | .nm _, .Compare .., h | .nm _, .Call .., h | .nm _, .FormattedValue .., h | .nm _, .JoinedStr .., h | .nm _, .Constant .., h | .nm _, .Attribute .., h | .nm _, .Subscript .., h | .nm _, .Starred .., h | .nm _, .List .., h | .nm _, .Tuple .., h | .nm _, .Slice .., h => by simp [isTg] at h
  | .tp _, .BoolOp .., h | .tp _, .NamedExpr .., h | .tp _, .BinOp .., h | .tp _, .UnaryOp .., h | .tp _, .Lambda .., h | .tp _, .IfExp .., h | .tp _, .Dict .., h | .tp _, .Set .., h | .tp _, .ListComp .., h | .tp _, .SetComp .., h | .tp _, .DictComp .., h | .tp _, .GeneratorExp .., h
  | .tp _, .Await .., h | .tp _, .Yield .., h | .tp _, .YieldFrom .., h | .tp _, .Compare .., h | .tp _, .Call .., h | .tp _, .FormattedValue .., h | .tp _, .JoinedStr .., h | .tp _, .Constant .., h | .tp _, .Attribute .., h | .tp _, .Subscript .., h | .tp _, .Starred .., h | .tp _, .List .., h | .tp _, .Name .., h | .tp _, .Slice .., h => by simp [isTg] at h
  | .up _, .BoolOp .., h | .up _, .NamedExpr .., h | .up _, .BinOp .., h | .up _, .UnaryOp .., h | .up _, .Lambda .., h | .up _, .IfExp .., h | .up _, .Dict .., h | .up _, .Set .., h | .up _, .ListComp .., h | .up _, .SetComp .., h | .up _, .DictComp .., h | .up _, .GeneratorExp .., h
  | .up _, .Await .., h | .up _, .Yield .., h | .up _, .YieldFrom .., h | .up _, .Compare .., h | .up _, .Call .., h | .up _, .FormattedValue .., h | .up _, .JoinedStr .., h | .up _, .Constant .., h | .up _, .Attribute .., h | .up _, .Subscript .., h | .up _, .Starred .., h | .up _, .List .., h | .up _, .Name .., h | .up _, .Slice .., h => by simp [isTg] at h
theorem okTgs {X : Cx} {S : Sx_} (hX : XOk X S) : ∀ (ts : Tgs) (xs : List Expr), isTgs S ts xs = true → PGs X xs (gTs X.K ts)
  | .nil, [], h => pgs_imp pgs_nil fun v σ H Q ⟨Z, ph, env, m, d, env', re, wd, r, e, q⟩ => by
    cases d with
    | nil =>
      simp only [bindTgs] at e
      cases e
      cases r
      exact ⟨rfl, q σ re fun _ _ => rfl⟩
    | cons a b => simp [bindTgs] at e
  | .cons t ts, x :: xs, h => by
    simp only [isTgs, Bool.and_eq_true] at h
    refine pgs_imp (pgs_cons (okTg hX t x h.1) (okTgs hX ts xs h.2) (by rw [isTg_each h.1]; rfl)) fun v σ H Q ⟨Z, ph, env, m, d, env', re, wd, r, e, q⟩ => ?_
    cases d with
    | nil => simp [bindTgs] at e
    | cons a b =>
      simp only [bindTgs] at e
      obtain ⟨e1, h1, e⟩ := Option.bind_eq_some_iff.mp e
      cases r with
      | cons r0 r => exact ⟨_, _, rfl, Z, ph, env, m, a, e1, re, wd, r0, h1, fun σ1 re1 w1 => ⟨Z, ph, e1, m, b, env', re1, wd, r, e, fun σ2 re2 w2 => q σ2 re2 fun l hl => by
          simp only [tgsIn, Bool.and_eq_true] at hl
          rw [w2 l hl.2, w1 l hl.1]⟩⟩
  | .nil, _ :: _, h => by simp [isTgs] at h
  | .cons _ _, [], h => by simp [isTgs] at h
end

/-! ## what is walked -/
structure Ydl (K : PySem.W.Frag) (Z : Addr → Prop) (ph : List Addr) (H0 : Hp) (J : L2.It) (ds : List D) : Prop where
  go : ∀ i ph' H', i < ds.length → Sx ph H0 ph' H' → J.go i H'
  stop : ∀ ph' H', Sx ph H0 ph' H' → J.stop ds.length H'
  yld : ∀ (Z' : Addr → Prop) i ph' H' x H2, (∀ a, Z' a → Z a ∨ H0 a = none) → i < ds.length → Sx ph H0 ph' H' → J.yld i H' x H2 →
    (H2 = H' ∨ ∃ T o, H' T = none ∧ H2 = upd H' T (.tup o)) ∧ ∃ d, ds[i]? = some d ∧ RepV K Z' ph' H2 x d
def tEvI (K : PySem.W.Frag) (r : RA) : TI := fun σ H R => ∃ Z ph env m, RepE K Z ph H σ env ∧ Wd K Z ph m H ∧ ∃ ds m', r env m = some (ds, m') ∧ ∀ ph' H' J, Sx ph H ph' H' → Wd K Z ph' m' H' → Ydl K Z ph' H' J ds → R J H'
theorem pi_imp {X : Cx} {tg x : Expr} {t t' : TI} (h : PI X tg x t) (i : ∀ σ H Q, t' σ H Q → t σ H Q) : PI X tg x t' := ⟨fun pins s σ H R I w => h.run pins s σ H R I (i σ H R w)⟩
section
variable {K : PySem.W.Frag} {Z Z' : Addr → Prop} {ph ph' : List Addr} {H H' : Hp}
mutual
theorem RepV.zmono (hz : ∀ a, Z' a → Z a ∨ H a = none) : ∀ {v d}, RepV K Z ph H v d → RepV K Z' ph H v d
  | _, _, .non => .non
  | _, _, .bl b => .bl b
  | _, _, .int i => .int i
  | _, _, .str x => .str x
  | _, _, .tup h r => .tup h (RepVs.zmono hz r)
  | _, _, .lst h n z r => .lst h n (fun q => (hz _ q).elim z fun e => by rw [h] at e; cases e) (RepVs.zmono hz r)
  | _, _, .frz h r => .frz h (RepVs.zmono hz r)
  | _, _, .ref h => .ref h
theorem RepVs.zmono (hz : ∀ a, Z' a → Z a ∨ H a = none) : ∀ {vs ds}, RepVs K Z ph H vs ds → RepVs K Z' ph H vs ds
  | _, _, .nil => .nil
  | _, _, .cons h r => .cons (RepV.zmono hz h) (RepVs.zmono hz r)
end
theorem ydl_tup {a : Addr} {vs : List V} {ds : List D} (h : SqT K H a vs) (r : RepVs K Z ph H vs ds) : Ydl K Z ph H (Itt K a) ds := by
  refine ⟨fun i ph' H' hi s => ?_, fun ph' H' s => ⟨vs, s.sqT h, by rw [r.len]; exact Nat.le_refl _⟩, fun Z' i ph' H' x H2 hz hi s hy => ?_⟩
  · obtain ⟨v, hv, _⟩ := r.get (List.getElem?_eq_getElem hi)
    exact ⟨vs, v, s.sqT h, hv⟩
  · obtain ⟨rfl, hy⟩ := hy
    obtain ⟨d, h1, r1⟩ := r.get' (hy vs (s.sqT h))
    exact ⟨.inl rfl, d, h1, (r1.zmono hz).mono s⟩
theorem ydl_lst {a : Addr} {vs : List V} {ds : List D} (h : H a = some (.lst vs)) (n : a ∉ ph) (r : RepVs K Z ph H vs ds) : Ydl K Z ph H (Itl K a) ds := by
  refine ⟨fun i ph' H' hi s => ?_, fun ph' H' s => ⟨vs, SqL.of (s.fr _ _ h n), by rw [r.len]; exact Nat.le_refl _⟩, fun Z' i ph' H' x H2 hz hi s hy => ?_⟩
  · obtain ⟨v, hv, _⟩ := r.get (List.getElem?_eq_getElem hi)
    exact ⟨vs, v, SqL.of (s.fr _ _ h n), hv⟩
  · obtain ⟨rfl, hy⟩ := hy
    obtain ⟨d, h1, r1⟩ := r.get' (hy vs (SqL.of (s.fr _ _ h n)))
    exact ⟨.inl rfl, d, h1, (r1.zmono hz).mono s⟩
theorem ydl_rng (lo : Int) (n : Nat) : Ydl K Z ph H (Itr lo n) (rangeD lo n) := by
  have hl : (rangeD lo n).length = n := by simp [rangeD]
  refine ⟨fun i ph' H' hi s => by rw [hl] at hi; exact hi, fun ph' H' s => by rw [hl]; exact Nat.le_refl _, fun Z' i ph' H' x H2 hz hi s hy => ?_⟩
  obtain ⟨rfl, rfl⟩ := hy
  rw [hl] at hi
  refine ⟨.inl rfl, .int (lo + i), ?_, .int _⟩
  simp [rangeD, hi]
theorem ydl_zipT {a b : Addr} {vs ws : List V} {ds es : List D} (h : SqT K H a vs) (r : RepVs K Z ph H vs ds) (h' : SqT K H b ws) (r' : RepVs K Z ph H ws es) : Ydl K Z ph H (RZ.ItzT K a b) (List.zipWith (fun a b => .tup [a, b]) ds es) := by
  have hl : (List.zipWith (fun a b => D.tup [a, b]) ds es).length = min ds.length es.length := List.length_zipWith
  refine ⟨fun i ph' H' hi s => ?_, fun ph' H' s => ⟨vs, ws, s.sqT h, s.sqT h', by rw [r.len, r'.len, hl]; omega⟩, fun Z' i ph' H' x H2 hz hi s hy => ?_⟩
  · rw [hl] at hi
    obtain ⟨v, hv, _⟩ := r.get (List.getElem?_eq_getElem (by omega : i < ds.length))
    obtain ⟨w, hw, _⟩ := r'.get (List.getElem?_eq_getElem (by omega : i < es.length))
    exact ⟨vs, ws, v, w, s.sqT h, s.sqT h', hv, hw⟩
  · obtain ⟨T, v, w, rfl, hT, rfl, h1, h2⟩ := hy
    obtain ⟨d, e1, q1⟩ := r.get' (h1 vs (s.sqT h))
    obtain ⟨e, e2, q2⟩ := r'.get' (h2 ws (s.sqT h'))
    have s2 : Sx ph' H' ph' (upd H' T (.tup [v, w])) := Sx.upd hT
    exact ⟨.inr ⟨T, _, hT, rfl⟩, .tup [d, e], by rw [List.getElem?_zipWith, e1, e2], .tup (SqT.of upd_same) (.cons (((q1.zmono hz).mono s).mono s2) (.cons (((q2.zmono hz).mono s).mono s2) .nil))⟩
theorem ydl_zipL {a b : Addr} {vs ws : List V} {ds es : List D} (h : H a = some (.lst vs)) (n : a ∉ ph) (r : RepVs K Z ph H vs ds) (h' : H b = some (.lst ws)) (n' : b ∉ ph) (r' : RepVs K Z ph H ws es) : Ydl K Z ph H (Itz K a b) (List.zipWith (fun a b => .tup [a, b]) ds es) := by
  have hl : (List.zipWith (fun a b => D.tup [a, b]) ds es).length = min ds.length es.length := List.length_zipWith
  have g : ∀ {ph' H'}, Sx ph H ph' H' → SqL K H' a vs := fun s => SqL.of (s.fr _ _ h n)
  have g' : ∀ {ph' H'}, Sx ph H ph' H' → SqL K H' b ws := fun s => SqL.of (s.fr _ _ h' n')
  refine ⟨fun i ph' H' hi s => ?_, fun ph' H' s => ⟨vs, ws, g s, g' s, by rw [r.len, r'.len, hl]; omega⟩, fun Z' i ph' H' x H2 hz hi s hy => ?_⟩
  · rw [hl] at hi
    obtain ⟨v, hv, _⟩ := r.get (List.getElem?_eq_getElem (by omega : i < ds.length))
    obtain ⟨w, hw, _⟩ := r'.get (List.getElem?_eq_getElem (by omega : i < es.length))
    exact ⟨vs, ws, v, w, g s, g' s, hv, hw⟩
  · obtain ⟨T, v, w, rfl, hT, rfl, h1, h2⟩ := hy
    obtain ⟨d, e1, q1⟩ := r.get' (h1 vs (g s))
    obtain ⟨e, e2, q2⟩ := r'.get' (h2 ws (g' s))
    have s2 : Sx ph' H' ph' (upd H' T (.tup [v, w])) := Sx.upd hT
    exact ⟨.inr ⟨T, _, hT, rfl⟩, .tup [d, e], by rw [List.getElem?_zipWith, e1, e2], .tup (SqT.of upd_same) (.cons (((q1.zmono hz).mono s).mono s2) (.cons (((q2.zmono hz).mono s).mono s2) .nil))⟩
end
section
variable {X : Cx} {x y tg : Expr} {pos p : Pos} {ra rb : RE}
theorem pi_or {t t' : TI} (h : PI X tg x t) (h' : PI X tg x t') : PI X tg x (fun σ H R => t σ H R ∨ t' σ H R) := ⟨fun pins s σ H R I w => w.elim (h.run pins s σ H R I) (h'.run pins s σ H R I)⟩
def rSeq_ (ra : RE) : RA := fun env m => (ra env m).bind fun p => match p.1 with
  | .tup xs => some (xs, p.2)
  | .lst xs => some (xs, p.2)
  | _ => none
theorem i_seq (ha : PE X x (tEv X.K ra)) : PI X tg x (tEvI X.K (rSeq_ ra)) :=
  pi_imp (pi_or (pi_tup ha) (pi_list ha)) fun σ H R ⟨Z, ph, env, m, re, wd, ds, m', e, q⟩ => by
    obtain ⟨p, h1, e⟩ := Option.bind_eq_some_iff.mp e
    split at e
    · rename_i xs hp
      cases e
      refine .inl (ev_of re wd h1 fun ph1 H1 v s1 w1 re1 r1 => ?_)
      rw [hp] at r1
      cases r1 with
      | tup h r => exact ⟨_, rfl, ⟨_, h⟩, q ph1 H1 _ s1 w1 (ydl_tup h r)⟩
    · rename_i xs hp
      cases e
      refine .inr (ev_of re wd h1 fun ph1 H1 v s1 w1 re1 r1 => ?_)
      rw [hp] at r1
      cases r1 with
      | lst h n z r => exact ⟨_, rfl, ⟨_, SqL.of h⟩, q ph1 H1 _ s1 w1 (ydl_lst h n r)⟩
    · cases e
def rRng1_ (ra : RE) : RA := fun env m => (ra env m).bind fun p => match p.1 with
  | .int n => if rgOk n then some (rangeD 0 n.toNat, p.2) else none
  | _ => none
theorem i_rng1 (hg : Gl X "range") (hm : X.mg "range" = none) (ha : PE X x (tEv X.K ra)) (hs : starEach [x] X.env = (false, eval x X.env) :: starEach [] X.env) : PI X tg (.Call (.Name "range" p) [x] [] pos) (tEvI X.K (rRng1_ ra)) :=
  pi_imp (pi_range1 hg hm (pa_cons ha pa_nil hs) hs) fun σ H R ⟨Z, ph, env, m, re, wd, ds, m', e, q⟩ => by
    obtain ⟨p, h1, e⟩ := Option.bind_eq_some_iff.mp e
    refine ev_of re wd h1 fun ph1 H1 v s1 w1 re1 r1 => ?_
    split at e
    · rename_i n hp
      rw [hp] at r1
      cases r1
      split at e
      · rename_i hk
        simp only [rgOk, Bool.and_eq_true, decide_eq_true_eq] at hk
        cases e
        exact ⟨n, rfl, hk.1, hk.2, q ph1 H1 _ s1 w1 (ydl_rng 0 _)⟩
      · cases e
    · cases e
def rRng2_ (ra rb : RE) : RA := fun env m => (ra env m).bind fun p => (rb env p.2).bind fun q => match p.1, q.1 with
  | .int i, .int j => if rgOk i && rgOk j then some (rangeD i (j - i).toNat, q.2) else none
  | _, _ => none
theorem i_rng2 (hg : Gl X "range") (hm : X.mg "range" = none) (ha : PE X x (tEv X.K ra)) (hb : PE X y (tEv X.K rb)) (hs : starEach [x, y] X.env = (false, eval x X.env) :: starEach [y] X.env) (hs2 : starEach [y] X.env = (false, eval y X.env) :: starEach [] X.env) : PI X tg (.Call (.Name "range" p) [x, y] [] pos) (tEvI X.K (rRng2_ ra rb)) :=
  pi_imp (pi_range2 hg hm (pa_cons ha (pa_cons hb pa_nil hs2) hs) (by rw [hs, hs2]; rfl) hs2) fun σ H R ⟨Z, ph, env, m, re, wd, ds, m', e, q⟩ => by
    obtain ⟨p, h1, e⟩ := Option.bind_eq_some_iff.mp e
    obtain ⟨p2, h2, e⟩ := Option.bind_eq_some_iff.mp e
    refine ev_of re wd h1 fun ph1 H1 v s1 w1 re1 r1 => ev_of re1 w1 h2 fun ph2 H2 w s2 w2 re2 r2 => ?_
    split at e
    · rename_i i j hi hj
      rw [hi] at r1
      rw [hj] at r2
      cases r1
      cases r2
      split at e
      · rename_i hk
        simp only [rgOk, Bool.and_eq_true, decide_eq_true_eq] at hk
        cases e
        exact ⟨i, j, rfl, ⟨hk.1.1, hk.1.2, hk.2.1, hk.2.2⟩, q ph2 H2 _ (s1.trans s2) w2 (ydl_rng i _)⟩
      · cases e
    · cases e
def rZip_ (ra rb : RE) : RA := fun env m => (ra env m).bind fun p => (rb env p.2).bind fun q => (zipD p.1 q.1).map fun ds => (ds, q.2)
def rZipS_ (ra rb : RE) : RA := fun env m => (ra env m).bind fun p => (rb env p.2).bind fun q => (zipSD p.1 q.1).map fun ds => (ds, q.2)
theorem row_sg {K : PySem.W.Frag} {Z : Addr → Prop} {ph : List Addr} {H : Hp} {v : V} {d : D} {b : Bool} {xs : List D} (r : RepV K Z ph H v d) (e : rowD d = some (b, xs)) :
    ∃ a vs, v = .ref a ∧ RepVs K Z ph H vs xs ∧ ∀ ph' H', Sx ph H ph' H' → SqG b K H' a vs := by
  cases r with
  | tup h r => cases e; exact ⟨_, _, rfl, r, fun ph' H' s => s.sqT h⟩
  | lst h n z r => cases e; exact ⟨_, _, rfl, r, fun ph' H' s => SqL.of (s.fr _ _ h n)⟩
  | non => cases e
  | bl => cases e
  | int => cases e
  | str => cases e
  | frz => cases e
  | ref => cases e
theorem ydl_zipG {K : PySem.W.Frag} {Z : Addr → Prop} {ph : List Addr} {H : Hp} {a c : Addr} {b1 b2 : Bool} {vs ws : List V} {ds es : List D} (g : ∀ ph' H', Sx ph H ph' H' → SqG b1 K H' a vs) (r : RepVs K Z ph H vs ds) (g' : ∀ ph' H', Sx ph H ph' H' → SqG b2 K H' c ws) (r' : RepVs K Z ph H ws es) (e : ds.length = es.length) : Ydl K Z ph H (ItG b1 b2 K a c) (List.zipWith (fun a b => .tup [a, b]) ds es) := by
  have hl : (List.zipWith (fun a b => D.tup [a, b]) ds es).length = min ds.length es.length := List.length_zipWith
  refine ⟨fun i ph' H' hi s => ?_, fun ph' H' s => ⟨vs, ws, g _ _ s, g' _ _ s, by rw [r.len, hl]; omega, by rw [r'.len, hl]; omega⟩, fun Z' i ph' H' x H2 hz hi s hy => ?_⟩
  · rw [hl] at hi
    obtain ⟨v, hv, _⟩ := r.get (List.getElem?_eq_getElem (by omega : i < ds.length))
    obtain ⟨w, hw, _⟩ := r'.get (List.getElem?_eq_getElem (by omega : i < es.length))
    exact ⟨vs, ws, v, w, g _ _ s, g' _ _ s, hv, hw⟩
  · obtain ⟨T, v, w, rfl, hT, rfl, h1, h2⟩ := hy
    obtain ⟨d, e1, q1⟩ := r.get' (h1 vs (g _ _ s))
    obtain ⟨e, e2, q2⟩ := r'.get' (h2 ws (g' _ _ s))
    have s2 : Sx ph' H' ph' (upd H' T (.tup [v, w])) := Sx.upd hT
    exact ⟨.inr ⟨T, _, hT, rfl⟩, .tup [d, e], by rw [List.getElem?_zipWith, e1, e2], .tup (SqT.of upd_same) (.cons (((q1.zmono hz).mono s).mono s2) (.cons (((q2.zmono hz).mono s).mono s2) .nil))⟩
theorem zipS_run {σ : L2.St} {H : Hp} {R : L2.It → Hp → Prop} (h : tEvI X.K (rZipS_ ra rb) σ H R) : iZipG X.K (tCons (tEv X.K ra) (tCons (tEv X.K rb) tNil)) σ H R := by
  obtain ⟨Z, ph, env, m, re, wd, ds, m', e, q⟩ := h
  obtain ⟨p, h1, e⟩ := Option.bind_eq_some_iff.mp e
  obtain ⟨p2, h2, e⟩ := Option.bind_eq_some_iff.mp e
  obtain ⟨zs, h3, e⟩ := Option.map_eq_some_iff.mp e
  cases e
  refine ev_of re wd h1 fun ph1 H1 v s1 w1 re1 r1 => ev_of re1 w1 h2 fun ph2 H2 w s2 w2 re2 r2 => ?_
  have r1 := r1.mono s2
  obtain ⟨⟨b1, xs⟩, g1, h3⟩ := Option.bind_eq_some_iff.mp h3
  obtain ⟨⟨b2, ys⟩, g2, h3⟩ := Option.bind_eq_some_iff.mp h3
  split at h3
  · rename_i el
    cases h3
    obtain ⟨a, vs, rfl, q1, k1⟩ := row_sg r1 g1
    obtain ⟨c, ws, rfl, q2, k2⟩ := row_sg r2 g2
    exact ⟨b1, b2, a, c, vs, ws, rfl, k1 _ _ Sx.refl, k2 _ _ Sx.refl, q ph2 H2 _ (s1.trans s2) w2 (ydl_zipG k1 q1 k2 q2 el)⟩
  · cases h3
theorem i_zip {elts : List Expr} {kk : Nat} {tpos : Pos} (hg : Gl X "zip") (hm : X.mg "zip" = none) (ha : PE X x (tEv X.K ra)) (hb : PE X y (tEv X.K rb)) (hs : starEach [x, y] X.env = (false, eval x X.env) :: starEach [y] X.env) (hs2 : starEach [y] X.env = (false, eval y X.env) :: starEach [] X.env) :
    PI X (.Tuple elts kk tpos) (.Call (.Name "zip" p) [x, y] [] pos) (tEvI X.K (rZip_ ra rb)) :=
  pi_imp (pi_or (RZ.pi_zipA hg hm (pa_cons ha (pa_cons hb pa_nil hs2) hs) hs (by rw [hs2]; rfl)) (pi_zipG hg hm (pa_cons ha (pa_cons hb pa_nil hs2) hs) hs (by rw [hs2]; rfl))) fun σ H R ⟨Z, ph, env, m, re, wd, ds, m', e, q⟩ => by
    have e0 := e
    obtain ⟨p, h1, e⟩ := Option.bind_eq_some_iff.mp e
    obtain ⟨p2, h2, e⟩ := Option.bind_eq_some_iff.mp e
    obtain ⟨zs, h3, e⟩ := Option.map_eq_some_iff.mp e
    cases e
    have gen : zipSD p.1 p2.1 = some ds → iZipG X.K (tCons (tEv X.K ra) (tCons (tEv X.K rb) tNil)) σ H R := fun h4 =>
      zipS_run ⟨Z, ph, env, m, re, wd, ds, p2.2, by unfold rZipS_; rw [h1, Option.bind_some, h2, Option.bind_some, h4]; rfl, q⟩
    have h30 := h3
    unfold zipD at h3
    split at h3
    · rename_i xs ys hi hj
      cases h3
      refine .inl (ev_of re wd h1 fun ph1 H1 v s1 w1 re1 r1 => ev_of re1 w1 h2 fun ph2 H2 w s2 w2 re2 r2 => ?_)
      have r1 := r1.mono s2
      rw [hi] at r1
      rw [hj] at r2
      cases r1 with
      | tup g1 r1 =>
        cases r2 with
        | tup g2 r2 => exact ⟨_, _, _, _, rfl, .inr ⟨g1, g2, q ph2 H2 _ (s1.trans s2) w2 (ydl_zipT g1 r1 g2 r2)⟩⟩
    · rename_i xs ys hi hj
      cases h3
      refine .inl (ev_of re wd h1 fun ph1 H1 v s1 w1 re1 r1 => ev_of re1 w1 h2 fun ph2 H2 w s2 w2 re2 r2 => ?_)
      have r1 := r1.mono s2
      rw [hi] at r1
      rw [hj] at r2
      cases r1 with
      | lst g1 n1 z1 r1 =>
        cases r2 with
        | lst g2 n2 z2 r2 => exact ⟨_, _, _, _, rfl, .inl ⟨SqL.of g1, SqL.of g2, q ph2 H2 _ (s1.trans s2) w2 (ydl_zipL g1 n1 r1 g2 n2 r2)⟩⟩
    · rename_i xs ys hi hj
      exact .inr (gen (by rw [hi, hj]; exact h3))
    · rename_i xs ys hi hj
      exact .inr (gen (by rw [hi, hj]; exact h3))
    · cases h3
theorem i_zipS {elts : List Expr} {kk kn : Nat} {tpos vpos kpos : Pos} (hg : Gl X "zip") (hm : X.mg "zip" = none) (ha : PE X x (tEv X.K ra)) (hb : PE X y (tEv X.K rb)) (hs : starEach [x, y] X.env = (false, eval x X.env) :: starEach [y] X.env) (hs2 : starEach [y] X.env = (false, eval y X.env) :: starEach [] X.env) :
    PI X (.Tuple elts kk tpos) (.Call (.Name "zip" p) [x, y] [⟨some "strict", .Constant (.bool true) kn vpos, kpos⟩] pos) (tEvI X.K (rZipS_ ra rb)) :=
  pi_imp (pi_zipS hg hm (pa_cons ha (pa_cons hb pa_nil hs2) hs) hs (by rw [hs, hs2]; rfl)) fun _ _ _ h => zipS_run h
end
end Pv

namespace Pv
open PySem L2
section
variable {K : PySem.W.Frag} {Z : Addr → Prop} {ph ph' : List Addr} {H H' : Hp} {m : M} {p : Addr} {us us' : List V}
theorem SqT.upd {a : Addr} {vs : List V} (h : H p = some (.lst us)) (q : SqT K H a vs) : SqT K (L2.upd H p (.lst us')) a vs := by
  rcases q with (q | ⟨o, q⟩) | q
  · exact .inl (.inl (by rw [upd_ne (ne_of q h (by intro e; cases e))]; exact q))
  · exact .inl (.inr ⟨o, by rw [upd_ne (ne_of q h (by intro e; cases e))]; exact q⟩)
  · exact .inr q
theorem FrzL.upd {a : Addr} {vs : List V} (h : H p = some (.lst us)) (q : FrzL K H a vs) : FrzL K (L2.upd H p (.lst us')) a vs := by
  rcases q with ⟨o, q⟩ | q
  · exact .inl ⟨o, by rw [upd_ne (ne_of q h (by intro e; cases e))]; exact q⟩
  · exact .inr q
mutual
theorem RepV.updZ (hz : Z p) (h : H p = some (.lst us)) : ∀ {v d}, RepV K Z ph H v d → RepV K Z ph (L2.upd H p (.lst us')) v d
  | _, _, .non => .non
  | _, _, .bl b => .bl b
  | _, _, .int i => .int i
  | _, _, .str x => .str x
  | _, _, .tup q r => .tup (SqT.upd h q) (RepVs.updZ hz h r)
  | _, _, .lst (a := a) q n z r => .lst (by rw [upd_ne (fun (e : a = p) => z (by rw [e]; exact hz))]; exact q) n z (RepVs.updZ hz h r)
  | _, _, .frz q r => .frz (FrzL.upd h q) (RepVs.updZ hz h r)
  | _, _, .ref q => .ref q
theorem RepVs.updZ (hz : Z p) (h : H p = some (.lst us)) : ∀ {vs ds}, RepVs K Z ph H vs ds → RepVs K Z ph (L2.upd H p (.lst us')) vs ds
  | _, _, .nil => .nil
  | _, _, .cons q r => .cons (RepV.updZ hz h q) (RepVs.updZ hz h r)
end
theorem Wd.updZ (w : Wd K Z ph m H) (hz : Z p) (n : p ∉ ph) (h : H p = some (.lst us)) : Wd K Z ph m (L2.upd H p (.lst us')) := by
  refine ⟨w.len, w.nd, fun l xs e => ?_, fun a ha => ?_⟩
  · obtain ⟨a, vs, e1, e2, r⟩ := w.obj l xs e
    exact ⟨a, vs, e1, by rw [upd_ne (fun (e : a = p) => n (by rw [← e]; exact List.mem_of_getElem? e1))]; exact e2, r.updZ hz h⟩
  · by_cases e : a = p
    · subst e; exact ⟨_, upd_same⟩
    · obtain ⟨o, q⟩ := w.zin a ha
      exact ⟨o, by rw [upd_ne e]; exact q⟩
theorem Wd.newZ {vs : List V} (w : Wd K Z ph m H) (h : H p = none) : Wd K (Zp Z p) ph m (L2.upd H p (.lst vs)) := by
  have s : Sx ph H ph (L2.upd H p (.lst vs)) := Sx.upd h
  have w' := w.new (o := .lst vs) h
  refine ⟨w'.len, w'.nd, fun l xs e => ?_, fun a ha => ?_⟩
  · obtain ⟨a, us, e1, e2, r⟩ := w.obj l xs e
    exact ⟨a, us, e1, by rw [upd_ne (ne_of_none e2 h)]; exact e2, (r.zp h).mono s⟩
  · rcases ha with rfl | ha
    · exact ⟨_, upd_same⟩
    · exact w'.zin a ha
theorem Sx.updNew {ph0 : List Addr} {H0 : Hp} {o : HO} (s : Sx ph0 H0 ph H) (h : H0 p = none) : Sx ph0 H0 ph (L2.upd H p o) := by
  have k : ∀ a u, H0 a = some u → a ≠ p := fun a u e => ne_of_none e h
  refine ⟨s.ext, s.new, fun a u e n => by rw [upd_ne (k a u e)]; exact s.fr a u e n, fun a u e n => by rw [upd_ne (k a u e)]; exact s.ft a u e n, fun a u e => ?_⟩
  obtain ⟨o', q⟩ := s.old a u e
  exact ⟨o', by rw [upd_ne (k a u e)]; exact q⟩
theorem Sx.grow {x : V} {H2 : Hp} (h : H2 = H ∨ ∃ T o, H T = none ∧ H2 = L2.upd H T (.tup o)) : Sx ph H ph H2 := by
  rcases h with rfl | ⟨T, o, h, rfl⟩
  · exact Sx.refl
  · exact Sx.upd h
theorem Wd.grow {H2 : Hp} (w : Wd K Z ph m H) (h : H2 = H ∨ ∃ T o, H T = none ∧ H2 = L2.upd H T (.tup o)) : Wd K Z ph m H2 := by
  rcases h with rfl | ⟨T, o, h, rfl⟩
  · exact w
  · exact w.new h
end

section
variable {X : Cx} {x it tg c : Expr} {scope : Scope} {pos : Pos} {ri : RA} {rx rc : RE} {own : List (Str × Nat)} {t : Tg}
def rComp_ (own : List (Str × Nat)) (t : Tg) (ri : RA) (rx : RE) : RE := fun env m => (ri env m).bind fun p => if p.1.length ≤ lim then (compL t (wipeE env (own.map (·.2))) rx p.1 p.2).map fun q => (.lst q.1, q.2) else none
def rCompI_ (own : List (Str × Nat)) (t : Tg) (ri : RA) (rc rx : RE) : RE := fun env m => (ri env m).bind fun p => if p.1.length ≤ lim then (compLI t (wipeE env (own.map (·.2))) rc rx p.1 p.2).map fun q => (.lst q.1, q.2) else none
/-- where a comprehension stands behind i items -/
structure CAt (K : PySem.W.Frag) (Z : Addr → Prop) (ph1 : List Addr) (H1 : Hp) (Dl : Addr) (go : List D → M → Option (List D × M)) (items ds : List D) (m' : M) (i : Nat) (H : Hp) : Prop where
  le : i ≤ items.length
  ex : ∃ ph2 m2 accv accd rest, Sx ph1 H1 ph2 H ∧ Wd K (Zp Z Dl) ph2 m2 H ∧ Dl ∉ ph2 ∧ H Dl = some (.lst accv) ∧ RepVs K (Zp Z Dl) ph2 H accv accd ∧ accd.length ≤ i ∧ go (items.drop i) m2 = some (rest, m') ∧ accd ++ rest = ds
theorem comp_run {K : PySem.W.Frag} {σ : L2.St} {H1 : Hp} {Q : VK} {Z : Addr → Prop} {ph1 : List Addr} {env : Env} {m m' : M} {items ds : List D} {J : L2.It} {tt : TT} {te : TE} {g : TG} {vs : List Nat} {Dl : Addr} {go : List D → M → Option (List D × M)}
    (hgo : ∀ m, go [] m = some ([], m))
    (re : RepE K Z ph1 H1 σ env) (wd : Wd K Z ph1 m H1) (hD : H1 Dl = none) (yd : Ydl K Z ph1 H1 J items) (e : go items m = some (ds, m')) (hl : items.length ≤ lim)
    (turn : ∀ i d ph2 m2 H2 x rest (N : Hp → Prop), items[i]? = some d → Sx ph1 H1 ph2 H2 → Wd K (Zp Z Dl) ph2 m2 H2 → RepE K (Zp Z Dl) ph2 H2 (wipe σ vs) (wipeE env vs) → RepV K (Zp Z Dl) ph2 H2 x d → go (d :: items.drop (i + 1)) m2 = some (rest, m') →
      (∀ ph4 m4 H4 v y rest', Sx ph2 H2 ph4 H4 → Wd K (Zp Z Dl) ph4 m4 H4 → RepV K (Zp Z Dl) ph4 H4 v y → go (items.drop (i + 1)) m4 = some (rest', m') → rest = y :: rest' → ∃ acc, H4 Dl = some (.lst acc) ∧ acc.length < sizeLine ∧ N (upd H4 Dl (.lst (acc ++ [v])))) →
      (∀ ph4 m4 H4, Sx ph2 H2 ph4 H4 → Wd K (Zp Z Dl) ph4 m4 H4 → go (items.drop (i + 1)) m4 = some (rest, m') → N H4) →
      g x (wipe σ vs) H2 fun σ2 H3 => wipe σ2 vs = wipe σ vs ∧ tt σ2 H3 fun b H4 => if b = true then te σ2 H4 fun y H5 => ∃ acc, H5 Dl = some (.lst acc) ∧ acc.length < sizeLine ∧ N (upd H5 Dl (.lst (acc ++ [y]))) else N H4)
    (q : NP K Z ph1 H1 m' ds Q) :
    ∃ W : Nat → Nat → Hp → Prop, (∃ k, W 0 k (upd H1 Dl (.lst []))) ∧ ∀ i k H, W i k H →
      (J.stop i H ∧ Q (.ref Dl) H) ∨ (J.go i H ∧ ∃ Nx : Hp → Prop, (∀ H', Nx H' → ∃ k', k' < k ∧ W (i + 1) k' H') ∧ ∀ x H', J.yld i H x H' → g x (wipe σ vs) H' fun σ2 H2 => wipe σ2 vs = wipe σ vs ∧ tt σ2 H2 fun b H3 =>
        if b = true then te σ2 H3 fun y H4 => ∃ acc, H4 Dl = some (.lst acc) ∧ acc.length < sizeLine ∧ Nx (upd H4 Dl (.lst (acc ++ [y]))) else Nx H3) := by
  refine ⟨fun i k H => k = items.length - i ∧ CAt K Z ph1 H1 Dl go items ds m' i H, ⟨items.length, by simp, Nat.zero_le _, ?_⟩, ?_⟩
  · exact ⟨ph1, m, [], [], ds, Sx.upd hD, wd.newZ hD, wd.np hD, upd_same, .nil, Nat.le_refl _, by simpa using e, by simp⟩
  · rintro i k H ⟨rfl, hi, ph2, m2, accv, accd, rest, s2, w2, n2, hDl, ra, hla, hg, hds⟩
    by_cases hlt : i < items.length
    · refine .inr ⟨yd.go i ph2 H hlt s2, CAt K Z ph1 H1 Dl go items ds m' (i + 1), fun H' h => ⟨items.length - (i + 1), by omega, rfl, h⟩, fun x H' hy => ?_⟩
      obtain ⟨hg', d, hd, rx⟩ := yd.yld (Zp Z Dl) i ph2 H x H' (fun a ha => ha.elim (fun e => .inr (by rw [e]; exact hD)) .inl) hlt s2 hy
      have s3 : Sx ph2 H ph2 H' := Sx.grow (x := x) hg'
      have w3 : Wd K (Zp Z Dl) ph2 m2 H' := w2.grow hg'
      have hdr : items.drop i = d :: items.drop (i + 1) := by
        have e2 : items[i] = d := by rw [List.getElem?_eq_getElem hlt] at hd; exact Option.some.inj hd
        rw [List.drop_eq_getElem_cons hlt, e2]
      rw [hdr] at hg
      refine turn i d ph2 m2 H' x rest _ hd (s2.trans s3) w3 (((re.zp hD).mono (s2.trans s3)).wipe vs) rx hg (fun ph4 m4 H4 v y rest' s4 w4 rv hg4 er => ?_) (fun ph4 m4 H4 s4 w4 hg4 => ?_)
      · have hD4 : H4 Dl = some (.lst accv) := s4.fr _ _ (s3.fr _ _ hDl n2) n2
        have n4 : Dl ∉ ph4 := (s3.trans s4).notin hDl n2
        refine ⟨accv, hD4, by rw [ra.len, ← lim_eq]; omega, hlt, ph4, m4, accv ++ [v], accd ++ [y], rest', ((s2.trans s3).trans s4).updNew hD, w4.updZ (.inl rfl) n4 hD4, n4, upd_same, ?_, by simp; omega, hg4, by rw [← hds, er]; simp⟩
        exact (((ra.mono s3).mono s4).append (.cons rv .nil)).updZ (.inl rfl) hD4
      · have hD4 : H4 Dl = some (.lst accv) := s4.fr _ _ (s3.fr _ _ hDl n2) n2
        have n4 : Dl ∉ ph4 := (s3.trans s4).notin hDl n2
        exact ⟨hlt, ph4, m4, accv, accd, rest, (s2.trans s3).trans s4, w4, n4, hD4, (ra.mono s3).mono s4, by omega, hg4, hds⟩
    · have ei : i = items.length := by omega
      subst ei
      rw [List.drop_length, hgo] at hg
      cases hg
      rw [List.append_nil] at hds
      subst hds
      exact .inl ⟨yd.stop ph2 H s2, q ph2 H Dl accv hD hDl n2 s2 w2 ra⟩
theorem comp_read (hin : tgIn (own.map (·.2)) t = true) {K : PySem.W.Frag} (σ : L2.St) (H : Hp) (Q : VK) (h : tEvN K (rComp_ own t ri rx) σ H Q) : tLc (tEvI K ri) (gT K t) tYes (tEv K rx) (own.map (·.2)) σ H Q := by
  obtain ⟨Z, ph, env, m, re, wd, ds, m', e, q⟩ := h
  obtain ⟨p, h1, e⟩ := Option.bind_eq_some_iff.mp e
  split at e
  · rename_i hl
    obtain ⟨⟨ys, m2⟩, h2, e⟩ := Option.map_eq_some_iff.mp e
    cases e
    refine ⟨Z, ph, env, m, re, wd, p.1, p.2, h1, fun ph1 H1 J s1 w1 yd Dl hD => ?_⟩
    refine comp_run (go := compL t (wipeE env (own.map (·.2))) rx) (fun _ => rfl) (re.mono s1) w1 hD yd h2 hl ?_ (q.after s1)
    intro i d ph2 m2 H2 x rest N hd s2 w2 re2 rx2 hg k1 k2
    simp only [compL] at hg
    obtain ⟨e1, b1, hg⟩ := Option.bind_eq_some_iff.mp hg
    obtain ⟨y, b2, hg⟩ := Option.bind_eq_some_iff.mp hg
    obtain ⟨r, b3, hg⟩ := Option.bind_eq_some_iff.mp hg
    cases hg
    refine ⟨_, ph2, _, m2, d, e1, re2, w2, rx2, b1, fun σ' re' hw => ⟨by rw [hw _ hin, wipe_wipe], ?_⟩⟩
    exact ev_of re' w2 b2 fun ph4 H4 v s4 w4 re4 r4 => k1 ph4 y.2 H4 v y.1 r.1 s4 w4 r4 b3 rfl
  · cases e
theorem compI_read (hin : tgIn (own.map (·.2)) t = true) {K : PySem.W.Frag} (σ : L2.St) (H : Hp) (Q : VK) (h : tEvN K (rCompI_ own t ri rc rx) σ H Q) : tLc (tEvI K ri) (gT K t) (tEvT K rc) (tEv K rx) (own.map (·.2)) σ H Q := by
  obtain ⟨Z, ph, env, m, re, wd, ds, m', e, q⟩ := h
  obtain ⟨p, h1, e⟩ := Option.bind_eq_some_iff.mp e
  split at e
  · rename_i hl
    obtain ⟨⟨ys, m2⟩, h2, e⟩ := Option.map_eq_some_iff.mp e
    cases e
    refine ⟨Z, ph, env, m, re, wd, p.1, p.2, h1, fun ph1 H1 J s1 w1 yd Dl hD => ?_⟩
    refine comp_run (go := compLI t (wipeE env (own.map (·.2))) rc rx) (fun _ => rfl) (re.mono s1) w1 hD yd h2 hl ?_ (q.after s1)
    intro i d ph2 m2 H2 x rest N hd s2 w2 re2 rx2 hg k1 k2
    simp only [compLI] at hg
    obtain ⟨e1, b1, hg⟩ := Option.bind_eq_some_iff.mp hg
    obtain ⟨cc, b0, hg⟩ := Option.bind_eq_some_iff.mp hg
    refine ⟨_, ph2, _, m2, d, e1, re2, w2, rx2, b1, fun σ' re' hw => ⟨by rw [hw _ hin, wipe_wipe], ?_⟩⟩
    split at hg
    · rename_i hp
      obtain ⟨y, b2, hg⟩ := Option.bind_eq_some_iff.mp hg
      obtain ⟨r, b3, hg⟩ := Option.bind_eq_some_iff.mp hg
      cases hg
      refine evt_of re' w2 (b := true) (m1 := cc.2) (by rw [b0, ← hp]) fun ph3 H3 s3 w3 re3 => ?_
      rw [if_pos rfl]
      exact ev_of re3 w3 b2 fun ph4 H4 v s4 w4 re4 r4 => k1 ph4 y.2 H4 v y.1 r.1 (s3.trans s4) w4 r4 b3 rfl
    · rename_i hp
      refine evt_of re' w2 (b := false) (m1 := cc.2) (by rw [b0, ← hp]) fun ph3 H3 s3 w3 re3 => ?_
      rw [if_neg Bool.false_ne_true]
      exact k2 ph3 cc.2 H3 s3 w3 hg
    · cases hg
  · cases e
theorem n_compN (hc : X.calm = true) (hN : X.N.Nodup) (hi : PI X tg it (tEvI X.K ri)) (ok : BlkOk X.N X.env.scope scope own) (hin : tgIn (own.map (·.2)) t = true)
    (hg : ∀ (s : Shared) (H : Hp) (C : Addr) (cl : List (Str × Addr)) (fp : List Addr), PG (X.blk s H scope (compEnvC scope cl C X.env) fp) tg (gT X.K t))
    (he : ∀ (s : Shared) (H : Hp) (C : Addr) (cl : List (Str × Addr)) (fp : List Addr), PE (X.blk s H scope (compEnvC scope cl C X.env) fp) x (tEv X.K rx)) (hs : ∀ v, foldedSetIterable it X.env v = pure v) :
    PE X (.ListComp x [⟨tg, it, [], 0⟩] scope pos) (tEvN X.K (rComp_ own t ri rx)) :=
  pe_imp (pe_lc hc hN hi ok hg (fun _ _ _ _ _ => pts_nil) he hs) (comp_read hin)
theorem n_compIN (hc : X.calm = true) (hN : X.N.Nodup) (hi : PI X tg it (tEvI X.K ri)) (ok : BlkOk X.N X.env.scope scope own) (hin : tgIn (own.map (·.2)) t = true)
    (hg : ∀ (s : Shared) (H : Hp) (C : Addr) (cl : List (Str × Addr)) (fp : List Addr), PG (X.blk s H scope (compEnvC scope cl C X.env) fp) tg (gT X.K t))
    (ht : ∀ (s : Shared) (H : Hp) (C : Addr) (cl : List (Str × Addr)) (fp : List Addr), PT (X.blk s H scope (compEnvC scope cl C X.env) fp) c (tEvT X.K rc))
    (he : ∀ (s : Shared) (H : Hp) (C : Addr) (cl : List (Str × Addr)) (fp : List Addr), PE (X.blk s H scope (compEnvC scope cl C X.env) fp) x (tEv X.K rx)) (hs : ∀ v, foldedSetIterable it X.env v = pure v) :
    PE X (.ListComp x [⟨tg, it, [c], 0⟩] scope pos) (tEvN X.K (rCompI_ own t ri rc rx)) :=
  pe_imp (pe_lc hc hN hi ok hg (fun s H C cl fp => pts_one (ht s H C cl fp)) he hs) (compI_read hin)
theorem rComp_lst {env : Env} {m m' : M} {d : D} (h : rComp_ own t ri rx env m = some (d, m')) : ∃ ds, d = .lst ds := by
  obtain ⟨p, h1, e⟩ := Option.bind_eq_some_iff.mp h
  split at e
  · obtain ⟨q, h2, e⟩ := Option.map_eq_some_iff.mp e
    cases e; exact ⟨_, rfl⟩
  · cases e
theorem rCompI_lst {env : Env} {m m' : M} {d : D} (h : rCompI_ own t ri rc rx env m = some (d, m')) : ∃ ds, d = .lst ds := by
  obtain ⟨p, h1, e⟩ := Option.bind_eq_some_iff.mp h
  split at e
  · obtain ⟨q, h2, e⟩ := Option.map_eq_some_iff.mp e
    cases e; exact ⟨_, rfl⟩
  · cases e

/-! ### y = [..] on one line -/
variable {y : Str} {py spos : Pos} {i : Nat}
theorem s_setLc {t : Tg} (hc : X.calm = true) (hN : X.N.Nodup) (hy : X.N[i]? = some y) (hyl : X.env.scope.names.lookup y = some .local)
    (hsw : swapsWith (.ListComp x [⟨tg, it, [], 0⟩] scope pos) (some (.Name y py)) spos.line X.env = pure true) (hi : PI X tg it (tEvI X.K ri)) (ok : BlkOk X.N X.env.scope scope own)
    (hg : ∀ (s : Shared) (H : Hp) (C : Addr) (cl : List (Str × Addr)) (fp : List Addr), PG (X.blk s H scope (compEnvC scope cl C X.env) fp) tg (gT X.K t))
    (he : ∀ (s : Shared) (H : Hp) (C : Addr) (cl : List (Str × Addr)) (fp : List Addr), PE (X.blk s H scope (compEnvC scope cl C X.env) fp) x (tEv X.K rx)) (hs : ∀ v, foldedSetIterable it X.env v = pure v) :
    PS X (.Assign [.Name y py] (.ListComp x [⟨tg, it, [], 0⟩] scope pos) spos) (tAsg (tLc (tEvI X.K ri) (gT X.K t) tYes (tEv X.K rx) (own.map (·.2))) (gName i)) :=
  ps_setLc hc hN hy hyl hsw hi ok hg (fun _ _ _ _ _ => pts_nil) he hs
theorem s_setLcI {t : Tg} (hc : X.calm = true) (hN : X.N.Nodup) (hy : X.N[i]? = some y) (hyl : X.env.scope.names.lookup y = some .local)
    (hsw : swapsWith (.ListComp x [⟨tg, it, [c], 0⟩] scope pos) (some (.Name y py)) spos.line X.env = pure true) (hi : PI X tg it (tEvI X.K ri)) (ok : BlkOk X.N X.env.scope scope own)
    (hg : ∀ (s : Shared) (H : Hp) (C : Addr) (cl : List (Str × Addr)) (fp : List Addr), PG (X.blk s H scope (compEnvC scope cl C X.env) fp) tg (gT X.K t))
    (ht : ∀ (s : Shared) (H : Hp) (C : Addr) (cl : List (Str × Addr)) (fp : List Addr), PT (X.blk s H scope (compEnvC scope cl C X.env) fp) c (tEvT X.K rc))
    (he : ∀ (s : Shared) (H : Hp) (C : Addr) (cl : List (Str × Addr)) (fp : List Addr), PE (X.blk s H scope (compEnvC scope cl C X.env) fp) x (tEv X.K rx)) (hs : ∀ v, foldedSetIterable it X.env v = pure v) :
    PS X (.Assign [.Name y py] (.ListComp x [⟨tg, it, [c], 0⟩] scope pos) spos) (tAsg (tLc (tEvI X.K ri) (gT X.K t) (tEvT X.K rc) (tEv X.K rx) (own.map (·.2))) (gName i)) :=
  ps_setLc hc hN hy hyl hsw hi ok hg (fun s H C cl fp => pts_one (ht s H C cl fp)) he hs
end
end Pv

namespace Pv
open PySem L2

/-! ## the check: this term of ours is that expression of the row -/
def Sx_.blk (S : Sx_) (scope : Scope) : Sx_ := ⟨S.N, relS scope S.sc, fun x => scope.names.lookup x == some .cell⟩
def visB (S : Sx_) (x : Str) : Bool := (match S.sc.names.lookup x with
  | some .local => true
  | some .cell => true
  | some .free => true
  | _ => false) && !(x == ("__debug__" : Str)) && !(x == ("__classdict__" : Str))
def glB (S : Sx_) (x : Str) : Bool := decide (S.sc.names.lookup x = some .globalImplicit) && !(x == ("__debug__" : Str))
def conB : D → Const → Bool
  | .non, .none => true
  | .bl b, .bool b' => b == b'
  | .int i, .int j => decide (i = j)
  | .str x, .str y => decide (x = y)
  | _, _ => false
def isNew : E → Bool
  | .lst _ => true
  | .comp .. => true
  | .compIf .. => true
  | .listRg _ => true
  | .bi .list _ => true
  | .bin .add _ _ => true
  | .bin .mul _ _ => true
  | _ => false
def isTupE : Expr → Bool
  | .Tuple .. => true
  | _ => false
section
variable (T : List FnD) (G : List (Str × D))
mutual
def isE (S : Sx_) : E → Expr → Bool
  | .nop, _ => false
  | .var i, x => match x with
    | .Name s _ => decide (S.N[i]? = some s) && visB S s
    | _ => false
  | .con d, x => match x with
    | .Constant c _ _ => conB d c
    | _ => false
  | .glob k, x => match x with
    | .Name s _ => decide ((G[k]?).map (·.1) = some s) && glB S s
    | _ => false
  | .bin op a b, x => match x with
    | .BinOp l o r _ => bopB op o && isE S a l && isE S b r
    | _ => false
  | .neg a, x => match x with
    | .UnaryOp .USub y _ => isE S a y
    | _ => false
  | .cmp op a b, x => match x with
    | .Compare l [o] [r] _ => copB op o && isE S a l && isE S b r
    | _ => false
  | .chain o p a b c, x => match x with
    | .Compare l [o', p'] [r, r'] _ => copB o o' && copB p p' && isE S a l && isE S b r && isE S c r'
    | _ => false
  | .isN a, x => match x with
    | .Compare l [.Is] [.Constant .none _ _] _ => isE S a l
    | _ => false
  | .notN a, x => match x with
    | .Compare l [.IsNot] [.Constant .none _ _] _ => isE S a l
    | _ => false
  | .and_ a b, x => match x with
    | .BoolOp .And (l :: r :: rest) pos => isE S a l && isE S b (.BoolOp .And (r :: rest) pos)
    | _ => false
  | .and1 a, x => match x with
    | .BoolOp .And [l] _ => isE S a l
    | _ => false
  | .or_ a b, x => match x with
    | .BoolOp .Or (l :: r :: rest) pos => isE S a l && isE S b (.BoolOp .Or (r :: rest) pos)
    | _ => false
  | .or1 a, x => match x with
    | .BoolOp .Or [l] _ => isE S a l
    | _ => false
  | .not_ a, x => match x with
    | .UnaryOp .Not y _ => isE S a y
    | _ => false
  | .ife c a b, x => match x with
    | .IfExp t l r _ => isE S c t && isE S a l && isE S b r
    | _ => false
  | .call f as, x => match x with
    | .Call (.Name nm _) xs [] _ => decide ((T[f]?).map (·.nm) = some nm) && glB S nm && isEs S as xs
    | _ => false
  | .callP f as, x => match x with
    | .Call (.Name nm _) xs [] _ => decide ((T[f]?).map (·.nm) = some nm) && glB S nm && isEs S as xs
    | _ => false
  | .callF f as, x => match x with
    | .Call (.Name nm _) xs [] _ => decide ((T[f]?).map (·.nm) = some nm) && glB S nm && isEs S as xs
    | _ => false
  | .bi b as, x => match x with
    | .Call (.Name nm _) (z :: zs) [] _ => decide (nm = biNm b) && glB S nm && isEs S as (z :: zs)
    | _ => false
  | .isi a t, x => match x with
    | .Call (.Name nm _) [z, .Name ty _] [] _ => decide (nm = "isinstance") && glB S nm && decide (ty = tyNm t) && glB S ty && isE S a z
    | _ => false
  | .listRg a, x => match x with
    | .Call (.Name nm _) [.Call (.Name ty _) [z] [] _] [] _ => decide (nm = "list") && glB S nm && decide (ty = "range") && glB S ty && isE S a z
    | _ => false
  | .ix a b, x => match x with
    | .Subscript l r _ => isE S a l && isE S b r
    | _ => false
  | .sl a lo hi, x => match x with
    | .Subscript l (.Slice r r' none _) _ => isE S a l && (match r with
        | none => isNop lo
        | some z => !isNop lo && isE S lo z) && (match r' with
        | none => isNop hi
        | some z => !isNop hi && isE S hi z)
    | _ => false
  | .tup as, x => match x with
    | .Tuple xs _ _ => isEs S as xs
    | _ => false
  | .lst as, x => match x with
    | .List xs _ => isEs S as xs
    | _ => false
  | .comp own t it e, x => match x with
    | .ListComp z [⟨tg, i, [], a⟩] scope _ => decide (a = 0) && blkC S.N S.sc scope own && tgIn (own.map (·.2)) t && isI S it i (isTupE tg) && isTg (S.blk scope) t tg && isE (S.blk scope) e z
    | _ => false
  | .compIf own t it c e, x => match x with
    | .ListComp z [⟨tg, i, [y], a⟩] scope _ => decide (a = 0) && blkC S.N S.sc scope own && tgIn (own.map (·.2)) t && isI S it i (isTupE tg) && isTg (S.blk scope) t tg && isE (S.blk scope) c y && isE (S.blk scope) e z
    | _ => false
  | .box a, x => isNew a && isE S a x
  | .pop a, x => match x with
    | .Call (.Attribute (.Name s p) nm ap) [] [] pos => decide (nm = "pop") && (ap.endLine == pos.line) && isE S a (.Name s p)
    | _ => false
  | .popAt a b, x => match x with
    | .Call (.Attribute (.Name s p) nm ap) [y] [] pos => decide (nm = "pop") && (ap.endLine == pos.line) && isE S a (.Name s p) && isE S b y
    | _ => false
  | .append a b, x => match x with
    | .Call (.Attribute (.Name s p) nm ap) [y] [] pos => decide (nm = "append") && (ap.endLine == pos.line) && isE S a (.Name s p) && isE S b y
    | _ => false
  | .rev a, x => match x with
    | .Subscript l (.Slice none none (some (.UnaryOp .USub (.Constant (.int i) _ _) _)) _) _ => decide (i = 1) && isE S a l
    | _ => false
  | .join a b, x => match x with
    | .Call (.Attribute (.Constant c k p) nm ap) [y] [] pos => decide (nm = "join") && (ap.endLine == pos.line) && isE S a (.Constant c k p) && isE S b y
    | _ => false
  | .fmt a, x => match x with
    | .FormattedValue y c none _ => decide (c = -1) && isE S a y
    | _ => false
  | .fstr as, x => match x with
    | .JoinedStr (y :: z :: r) _ => isEs S as (y :: z :: r)
    | _ => false
def isEs (S : Sx_) : Es → List Expr → Bool
  | .nil, xs => match xs with
    | [] => true
    | _ => false
  | .cons e es, xs => match xs with
    | x :: r => isE S e x && isEs S es r
    | _ => false
def isI (S : Sx_) : It → Expr → Bool → Bool
  | .seq e, x, _ => isE S e x
  | .rng1 e, x, _ => match x with
    | .Call (.Name nm _) [z] [] _ => decide (nm = "range") && glB S nm && isE S e z
    | _ => false
  | .rng2 a b, x, _ => match x with
    | .Call (.Name nm _) [z, y] [] _ => decide (nm = "range") && glB S nm && isE S a z && isE S b y
    | _ => false
  | .zip a b, x, tp => match x with
    | .Call (.Name nm _) [z, y] [] _ => tp && decide (nm = "zip") && glB S nm && isE S a z && isE S b y
    | _ => false
  | .zipS a b, x, tp => match x with
    | .Call (.Name nm _) [z, y] [⟨some kw, .Constant (.bool true) _ _, _⟩] _ => tp && decide (nm = "zip") && decide (kw = "strict") && glB S nm && isE S a z && isE S b y
    | _ => false
end
end

/-! ## shapes -/
def plB : Expr → Bool
  | .Starred .. => false
  | .Slice .. => false
  | .Set .. => false
  | .SetComp .. => false
  | .DictComp .. => false
  | _ => true
theorem is_pl {T : List FnD} {G : List (Str × D)} {S : Sx_} : ∀ {e : E} {x : Expr}, isE T G S e x = true → plB x = true
  | .box a, x, h => by
    simp only [isE, Bool.and_eq_true] at h
    exact is_pl h.2
  | .nop, x, h => by simp [isE] at h
  | .var _, x, h | .con _, x, h | .glob _, x, h | .bin _ _ _, x, h | .neg _, x, h | .cmp _ _ _, x, h | .chain _ _ _ _ _, x, h | .isN _, x, h | .notN _, x, h | .and_ _ _, x, h | .and1 _, x, h | .or_ _ _, x, h | .or1 _, x, h | .not_ _, x, h | .ife _ _ _, x, h | .call _ _, x, h | .callP _ _, x, h | .bi _ _, x, h | .isi _ _, x, h
  | .listRg _, x, h | .ix _ _, x, h | .sl _ _ _, x, h | .tup _, x, h | .lst _, x, h | .comp _ _ _ _, x, h | .compIf _ _ _ _ _, x, h | .pop _, x, h | .popAt _ _, x, h | .append _ _, x, h | .callF _ _, x, h | .rev _, x, h | .join _ _, x, h | .fmt _, x, h | .fstr _, x, h => by
    simp only [isE] at h
    split at h <;> first | rfl | cases h
section
variable {x : Expr} (h : plB x = true)
include h
theorem pl_star (xs : List Expr) (env : PySem.Env) : starEach (x :: xs) env = (false, eval x env) :: starEach xs env := by
  cases x <;> first | rfl | cases h
theorem pl_ix : PlainIx x := by
  cases x <;> first | (exact fun _ _ => rfl) | cases h
theorem pl_mark (op : CmpOp) : behindInMarks op x = false := by
  cases x <;> first | rfl | cases h
theorem pl_fold (env : PySem.Env) (v : Value) : foldedSetIterable x env v = pure v := by
  cases x <;> first | rfl | cases h
end
theorem any_star : ∀ (xs : List Expr) (env : PySem.Env) (pos : Pos), (∀ x ∈ xs, plB x = true) → (backTo pos (starEach xs env)).any (·.1) = false
  | [], _, _, _ => rfl
  | x :: xs, env, pos, h => by
    have ih := any_star xs env pos fun y hy => h y (List.mem_cons_of_mem _ hy)
    rw [pl_star (h x List.mem_cons_self)]
    show (false || (backTo pos (starEach xs env)).any (·.1)) = false
    rw [ih]; rfl
theorem is_pls {T : List FnD} {G : List (Str × D)} {S : Sx_} : ∀ {es : Es} {xs : List Expr}, isEs T G S es xs = true → ∀ x ∈ xs, plB x = true
  | .nil, [], _ => fun _ q => nomatch q
  | .nil, _ :: _, h => by simp [isEs] at h
  | .cons e es, [], h => by simp [isEs] at h
  | .cons e es, x :: xs, h => by
    simp only [isEs, Bool.and_eq_true] at h
    intro y hy
    rcases List.mem_cons.mp hy with rfl | hy
    · exact is_pl h.1
    · exact is_pls h.2 y hy

/-! ## the context -/
def bnames : List Str := ["len", "int", "tuple", "list", "sum", "all", "any", "max", "min", "isinstance", "range", "zip", "bool", "str", "sorted"]
structure Cok (X : Cx) (n : Nat) (T : List FnD) (F : Fn) (G : List (Str × D)) : Prop where
  fn : ∀ (i : Nat) (fd : FnD), T[i]? = some fd → ∃ f fdat, FnK X.prog X.w X.K X.mg X.base n f fdat fd.ps (spF X.K fd.ps.length (F i)) ∧ Binds X.K fdat fd.ps [] ∧ PySem.W.keepIn X.K (.ref f) = true ∧ X.mg fd.nm = some (.ref f) ∧ (∀ ds m r, F i ds m = some r → ds.length = fd.ps.length)
  room : Rm n X.A
  bl : ∀ x ∈ bnames, X.mg x = none
  gl : ∀ (i : Nat) (x : Str) (d : D), G[i]? = some (x, d) → ∃ v u, X.mg x = some u ∧ RelV v u ∧ ∀ Z ph H, RepV X.K Z ph H v d
theorem Cok.blk {X : Cx} {n : Nat} {T : List FnD} {F : Fn} {G : List (Str × D)} (C : Cok X n T F G) (s : Shared) (H : Hp) (scope : Scope) (env : PySem.Env) (fp : List Addr) : Cok (X.blk s H scope env fp) n T F G := ⟨C.fn, C.room, C.bl, C.gl⟩
theorem XOk.blk {X : Cx} {S : Sx_} (hX : XOk X S) (s : Shared) (H : Hp) (scope : Scope) (C : Addr) (cl : List (Str × Addr)) (fp : List Addr) : XOk (X.blk s H scope (compEnvC scope cl C X.env) fp) (S.blk scope) := by
  refine ⟨hX.n, ?_, rfl, hX.calm, hX.nd, hX.un⟩
  show relS scope X.env.scope = relS scope S.sc
  rw [hX.sc]
section
variable {X : Cx} {S : Sx_} (hX : XOk X S)
include hX
theorem visB_ok {x : Str} (h : visB S x = true) : Vis X.env.scope x ∧ (x == ("__debug__" : Str)) = false ∧ (x == ("__classdict__" : Str)) = false := by
  simp only [visB, Bool.and_eq_true, Bool.not_eq_true'] at h
  refine ⟨?_, h.1.2, h.2⟩
  unfold Vis
  rw [hX.sc]
  have h := h.1.1
  split at h
  · exact .inl (by assumption)
  · exact .inr (.inl (by assumption))
  · exact .inr (.inr (by assumption))
  · cases h
theorem glB_ok {x : Str} (h : glB S x = true) : Gl X x ∧ (x == ("__debug__" : Str)) = false := by
  simp only [glB, Bool.and_eq_true, Bool.not_eq_true', decide_eq_true_eq] at h
  refine ⟨?_, h.2⟩
  unfold Gl Env.kindOf
  rw [hX.sc]
  exact h.1
end
theorem conB_ok {d : D} {c : Const} (h : conB d c = true) : conP d c := by
  unfold conB at h
  split at h
  · trivial
  · exact eq_of_beq h
  · exact (of_decide_eq_true h : _ = _)
  · exact (of_decide_eq_true h : _ = _)
  · cases h
def isBO : E → Bool
  | .and_ .. => true
  | .and1 _ => true
  | .or_ .. => true
  | .or1 _ => true
  | _ => false
end Pv

namespace Pv
open PySem L2
def gv (G : List (Str × D)) : List D := G.map (·.2)
theorem nil_rs {T : List FnD} {G : List (Str × D)} {S : Sx_} {F : Fn} {as : Es} {xs : List Expr} (h : isEs T G S as xs = true) (e : xs = []) : (fun env m => evA F (gv G) as env m) = fun _ m => some ([], m) := by
  subst e
  cases as with
  | nil => funext env m; rw [evA]
  | cons a b => simp [isEs] at h
theorem is_nop {T : List FnD} {G : List (Str × D)} {S : Sx_} {lo : E} {x : Expr} (h : isE T G S lo x = true) : isNop lo = false := by
  cases lo <;> first | rfl | (simp [isE] at h)
theorem tru_plain {T : List FnD} {G : List (Str × D)} {S : Sx_} {e : E} {x : Expr} (h : isE T G S e x = true) (hb : match e with
    | .cmp .. => False | .chain .. => False | .isN _ => False | .notN _ => False | .and_ .. => False | .and1 .. => False | .or_ .. => False | .or1 .. => False | .not_ _ => False | .ife .. => False | .box _ => False | _ => True) (env : PySem.Env) :
    ∀ whole, isTrue x env whole = (do let v ← whole; standAt x.pos; holding [v] (truthy v)) := by
  cases e <;> first | (exact False.elim hb) | skip
  all_goals (simp only [isE] at h; try (split at h)) 
  all_goals first | (intro _; rfl) | (cases h) | skip
theorem isBO_of {T : List FnD} {G : List (Str × D)} {S : Sx_} {b : E} {op : BoolOp} {xs : List Expr} {pos : Pos} (h : isE T G S b (.BoolOp op xs pos) = true) : isBO b = true := by
  cases b <;> first | rfl | (exfalso; simp [isE] at h; done) | skip
  rename_i a
  exfalso
  simp only [isE, Bool.and_eq_true] at h
  obtain ⟨h1, h2⟩ := h
  cases a <;> simp [isNew] at h1 <;> simp [isE] at h2
section
variable {n : Nat} {T : List FnD} {F : Fn} {G : List (Str × D)}
mutual
theorem okE : ∀ (e : E) {X : Cx} {S : Sx_} (C : Cok X n T F G) (hX : XOk X S) (x : Expr), isE T G S e x = true → PE X x (tEv X.K fun env m => evE F (gv G) e env m)
  | .nop, X, S, C, hX, x, h => by simp [isE] at h
  | .var i, X, S, C, hX, x, h => by
    simp only [isE] at h
    split at h
    · rename_i s p
      simp only [Bool.and_eq_true, decide_eq_true_eq] at h
      obtain ⟨h1, h2, h3⟩ := visB_ok hX h.2
      simp only [evE]
      exact n_var (by rw [hX.n]; exact h.1) h1 h2 h3
    · cases h
  | .con d, X, S, C, hX, x, h => by
    simp only [isE] at h
    split at h
    · simp only [evE]
      exact n_con (conB_ok h)
    · cases h
  | .glob k, X, S, C, hX, x, h => by
    simp only [isE] at h
    split at h
    · rename_i s p
      simp only [Bool.and_eq_true, decide_eq_true_eq] at h
      obtain ⟨h1, h2⟩ := glB_ok hX h.2
      obtain ⟨⟨s', d⟩, e1, e2⟩ := Option.map_eq_some_iff.mp h.1
      simp only at e2
      subst e2
      obtain ⟨v, u, m1, m2, m3⟩ := C.gl k s' d e1
      have e3 : (gv G)[k]? = some d := by unfold gv; rw [List.getElem?_map, e1]; rfl
      simp only [evE, e3]
      exact n_glob h1 m1 m2 m3 h2
    · cases h
  | .bin op a b, X, S, C, hX, x, h => by
    simp only [isE] at h
    split at h
    · simp only [Bool.and_eq_true] at h
      simp only [evE]
      exact n_bin h.1.1 (okE a C hX _ h.1.2) (okE b C hX _ h.2)
    · cases h
  | .neg a, X, S, C, hX, x, h => by
    simp only [isE] at h
    split at h
    · simp only [evE]
      exact n_neg (okE a C hX _ h)
    · cases h
  | .cmp op a b, X, S, C, hX, x, h => by
    simp only [isE] at h
    split at h
    · simp only [Bool.and_eq_true] at h
      simp only [evE]
      exact n_cmp hX.un h.1.1 (okE a C hX _ h.1.2) (okE b C hX _ h.2) (pl_mark (is_pl h.2) _)
    · cases h
  | .chain o p a b c, X, S, C, hX, x, h => by
    simp only [isE] at h
    split at h
    · simp only [Bool.and_eq_true] at h
      simp only [evE]
      exact n_chain hX.un h.1.1.1.1 h.1.1.1.2 (okE a C hX _ h.1.1.2) (okE b C hX _ h.1.2) (okE c C hX _ h.2) (pl_mark (is_pl h.2) _)
    · cases h
  | .isN a, X, S, C, hX, x, h => by
    simp only [isE] at h
    split at h
    · simp only [evE]
      exact n_isN (okE a C hX _ h)
    · cases h
  | .notN a, X, S, C, hX, x, h => by
    simp only [isE] at h
    split at h
    · simp only [evE]
      exact n_notN (okE a C hX _ h)
    · cases h
  | .and_ a b, X, S, C, hX, x, h => by
    simp only [isE] at h
    split at h
    · simp only [Bool.and_eq_true] at h
      simp only [evE]
      exact n_and (okE a C hX _ h.1) (okE b C hX _ h.2)
    · cases h
  | .and1 a, X, S, C, hX, x, h => by
    simp only [isE] at h
    split at h
    · simp only [evE]
      exact n_and1 (okE a C hX _ h)
    · cases h
  | .or_ a b, X, S, C, hX, x, h => by
    simp only [isE] at h
    split at h
    · simp only [Bool.and_eq_true] at h
      simp only [evE]
      exact n_or (okE a C hX _ h.1) (okE b C hX _ h.2)
    · cases h
  | .or1 a, X, S, C, hX, x, h => by
    simp only [isE] at h
    split at h
    · simp only [evE]
      exact n_or1 (okE a C hX _ h)
    · cases h
  | .not_ a, X, S, C, hX, x, h => by
    simp only [isE] at h
    split at h
    · simp only [evE]
      exact n_not (okE a C hX _ h)
    · cases h
  | .ife c a b, X, S, C, hX, x, h => by
    simp only [isE] at h
    split at h
    · simp only [Bool.and_eq_true] at h
      simp only [evE]
      exact n_ife (okT c C hX _ h.1.1) (okE a C hX _ h.1.2) (okE b C hX _ h.2)
    · cases h
  | .call f as, X, S, C, hX, x, h => by
    simp only [isE] at h
    split at h
    · rename_i nm p xs pos
      simp only [Bool.and_eq_true, decide_eq_true_eq] at h
      obtain ⟨h1, h2⟩ := glB_ok hX h.1.2
      obtain ⟨fd, e1, e2⟩ := Option.map_eq_some_iff.mp h.1.1
      subst e2
      obtain ⟨g, fdat, k1, k2, k3, k4, k5⟩ := C.fn f fd e1
      have pls := is_pls h.2
      simp only [evE]
      exact n_callG k1 (fun _ _ _ q => call_sp k5 q) C.room h1 k4 k3 k2 (okA as C hX _ h.2) (fun z zs e => pl_star (pls z (by rw [e]; exact List.mem_cons_self)) _ _) (fun z zs e => any_star _ _ _ fun y hy => pls y (by rw [e]; exact List.mem_cons_of_mem _ hy)) (nil_rs h.2) h2
    · cases h
  | .callP f as, X, S, C, hX, x, h => by
    simp only [isE] at h
    split at h
    · rename_i nm p xs pos
      simp only [Bool.and_eq_true, decide_eq_true_eq] at h
      obtain ⟨h1, h2⟩ := glB_ok hX h.1.2
      obtain ⟨fd, e1, e2⟩ := Option.map_eq_some_iff.mp h.1.1
      subst e2
      obtain ⟨g, fdat, k1, k2, k3, k4, k5⟩ := C.fn f fd e1
      have pls := is_pls h.2
      simp only [evE]
      exact n_callG k1 (fun _ _ _ q => callP_sp k5 q) C.room h1 k4 k3 k2 (okA as C hX _ h.2) (fun z zs e => pl_star (pls z (by rw [e]; exact List.mem_cons_self)) _ _) (fun z zs e => any_star _ _ _ fun y hy => pls y (by rw [e]; exact List.mem_cons_of_mem _ hy)) (nil_rs h.2) h2
    · cases h
  | .callF f as, X, S, C, hX, x, h => by
    simp only [isE] at h
    split at h
    · rename_i nm p xs pos
      simp only [Bool.and_eq_true, decide_eq_true_eq] at h
      obtain ⟨h1, h2⟩ := glB_ok hX h.1.2
      obtain ⟨fd, e1, e2⟩ := Option.map_eq_some_iff.mp h.1.1
      subst e2
      obtain ⟨g, fdat, k1, k2, k3, k4, k5⟩ := C.fn f fd e1
      have pls := is_pls h.2
      simp only [evE]
      exact n_callG k1 (fun _ _ _ q => callF_sp k5 q) C.room h1 k4 k3 k2 (okA as C hX _ h.2) (fun z zs e => pl_star (pls z (by rw [e]; exact List.mem_cons_self)) _ _) (fun z zs e => any_star _ _ _ fun y hy => pls y (by rw [e]; exact List.mem_cons_of_mem _ hy)) (nil_rs h.2) h2
    · cases h
  | .bi b as, X, S, C, hX, x, h => by
    simp only [isE] at h
    split at h
    · rename_i nm p z zs pos
      simp only [Bool.and_eq_true, decide_eq_true_eq] at h
      obtain ⟨h1, h2⟩ := glB_ok hX h.1.2
      have e := h.1.1
      subst e
      have pls := is_pls h.2
      simp only [evE]
      exact n_bi hX.calm h1 (C.bl _ (by cases b <;> decide)) (okA as C hX _ h.2) (pl_star (pls z List.mem_cons_self) _ _) (any_star _ _ _ fun y hy => pls y (List.mem_cons_of_mem _ hy))
    · cases h
  | .isi a t, X, S, C, hX, x, h => by
    simp only [isE] at h
    split at h
    · rename_i nm p z ty p2 pos
      simp only [Bool.and_eq_true, decide_eq_true_eq] at h
      obtain ⟨⟨⟨⟨e1, g1⟩, e2⟩, g2⟩, h⟩ := h
      subst e1 e2
      simp only [evE]
      exact n_isi (glB_ok hX g1).1 (C.bl _ (by decide)) (glB_ok hX g2).1 (C.bl _ (by cases t <;> decide)) (okE a C hX _ h) (fun zs => pl_star (is_pl h) _ _)
    · cases h
  | .listRg a, X, S, C, hX, x, h => of_new (okN (.listRg a) C hX x (by rfl) h) fun env m d m' e => by
      simp only [evE] at e
      exact rListRg_lst e
  | .ix a b, X, S, C, hX, x, h => by
    simp only [isE] at h
    split at h
    · simp only [Bool.and_eq_true] at h
      simp only [evE]
      exact n_ix (okE a C hX _ h.1) (okE b C hX _ h.2) (pl_ix (is_pl h.2))
    · cases h
  | .sl a lo hi, X, S, C, hX, x, h => by
    simp only [isE] at h
    split at h
    · rename_i l r r' p2 pos
      simp only [Bool.and_eq_true] at h
      obtain ⟨⟨h1, h2⟩, h3⟩ := h
      simp only [evE]
      refine n_sl (okE a C hX _ h1) ?_ ?_
      · cases r with
        | none => simp only at h2; rw [h2]; exact o_none
        | some z =>
          simp only [Bool.and_eq_true] at h2
          rw [is_nop h2.2]
          exact o_some (okE lo C hX _ h2.2)
      · cases r' with
        | none => simp only at h3; rw [h3]; exact o_none
        | some z =>
          simp only [Bool.and_eq_true] at h3
          rw [is_nop h3.2]
          exact o_some (okE hi C hX _ h3.2)
    · cases h
  | .tup as, X, S, C, hX, x, h => by
    simp only [isE] at h
    split at h
    · simp only [evE]
      exact n_tup (okA as C hX _ h)
    · cases h
  | .lst as, X, S, C, hX, x, h => of_new (okN (.lst as) C hX x (by rfl) h) fun env m d m' e => by
      simp only [evE] at e
      obtain ⟨p, h1, e⟩ := Option.bind_eq_some_iff.mp e
      split at e
      · cases e; exact ⟨_, rfl⟩
      · cases e
  | .comp own t it e, X, S, C, hX, x, h => of_new (okN (.comp own t it e) C hX x (by rfl) h) fun env m d m' e => by
      simp only [evE] at e
      exact rComp_lst e
  | .compIf own t it c e, X, S, C, hX, x, h => of_new (okN (.compIf own t it c e) C hX x (by rfl) h) fun env m d m' e => by
      simp only [evE] at e
      exact rCompI_lst e
  | .box a, X, S, C, hX, x, h => by
    simp only [isE, Bool.and_eq_true] at h
    simp only [evE]
    exact n_box (okN a C hX x h.1 h.2)
  | .pop a, X, S, C, hX, x, h => by
    simp only [isE] at h
    split at h
    · simp only [Bool.and_eq_true, decide_eq_true_eq] at h
      obtain ⟨⟨e1, e2⟩, h⟩ := h
      subst e1
      simp only [evE]
      exact n_pop (okE a C hX _ h) e2
    · cases h
  | .popAt a b, X, S, C, hX, x, h => by
    simp only [isE] at h
    split at h
    · simp only [Bool.and_eq_true, decide_eq_true_eq] at h
      obtain ⟨⟨⟨e1, e2⟩, h⟩, h'⟩ := h
      subst e1
      simp only [evE]
      exact n_popAt (okE a C hX _ h) (okE b C hX _ h') e2 (pl_star (is_pl h') _ _)
    · cases h
  | .append a b, X, S, C, hX, x, h => by
    simp only [isE] at h
    split at h
    · simp only [Bool.and_eq_true, decide_eq_true_eq] at h
      obtain ⟨⟨⟨e1, e2⟩, h⟩, h'⟩ := h
      subst e1
      simp only [evE]
      exact n_append (okE a C hX _ h) (okE b C hX _ h') e2 (pl_star (is_pl h') _ _)
    · cases h
  | .rev a, X, S, C, hX, x, h => by
    simp only [isE] at h
    split at h
    · simp only [Bool.and_eq_true, decide_eq_true_eq] at h
      obtain ⟨e1, h⟩ := h
      subst e1
      simp only [evE]
      exact n_rev (okE a C hX _ h)
    · cases h
  | .join a b, X, S, C, hX, x, h => by
    simp only [isE] at h
    split at h
    · simp only [Bool.and_eq_true, decide_eq_true_eq] at h
      obtain ⟨⟨⟨e1, e2⟩, h⟩, h'⟩ := h
      subst e1
      simp only [evE]
      exact n_join (okE a C hX _ h) (okE b C hX _ h') e2 (pl_star (is_pl h') _ _)
    · cases h
  | .fmt a, X, S, C, hX, x, h => by
    simp only [isE] at h
    split at h
    · simp only [Bool.and_eq_true, decide_eq_true_eq] at h
      obtain ⟨e1, h⟩ := h
      subst e1
      simp only [evE]
      exact n_fmt (okE a C hX _ h)
    · cases h
  | .fstr as, X, S, C, hX, x, h => by
    simp only [isE] at h
    split at h
    · simp only [evE]
      exact n_fstr (okJ as C hX _ h)
    · cases h
termination_by e => (sizeOf e, 1)
/-- new lists -/
theorem okN : ∀ (e : E) {X : Cx} {S : Sx_} (C : Cok X n T F G) (hX : XOk X S) (x : Expr), isNew e = true → isE T G S e x = true → PE X x (tEvN X.K fun env m => evE F (gv G) e env m)
  | .listRg a, X, S, C, hX, x, _, h => by
    simp only [isE] at h
    split at h
    · rename_i nm p ty p2 z ap pos
      simp only [Bool.and_eq_true, decide_eq_true_eq] at h
      obtain ⟨⟨⟨⟨e1, g1⟩, e2⟩, g2⟩, h⟩ := h
      subst e1 e2
      simp only [evE]
      exact n_listRgN hX.calm (glB_ok hX g1).1 (C.bl _ (by decide)) (glB_ok hX g2).1 (C.bl _ (by decide)) (okE a C hX _ h) (pl_star (is_pl h) _ _)
    · cases h
  | .lst as, X, S, C, hX, x, _, h => by
    simp only [isE] at h
    split at h
    · simp only [evE]
      exact n_lstN (okA as C hX _ h)
    · cases h
  | .bi .list as, X, S, C, hX, x, _, h => by
    simp only [isE] at h
    split at h
    · rename_i nm p z zs pos
      simp only [Bool.and_eq_true, decide_eq_true_eq] at h
      obtain ⟨h1, h2⟩ := glB_ok hX h.1.2
      have e : nm = "list" := h.1.1
      subst e
      have pls := is_pls h.2
      simp only [evE]
      exact n_listN hX.calm h1 (C.bl _ (by decide)) (okA as C hX _ h.2) (pl_star (pls z List.mem_cons_self) _ _) (any_star _ _ _ fun y hy => pls y (List.mem_cons_of_mem _ hy))
    · cases h
  | .bin op a b, X, S, C, hX, x, hn, h => by
    simp only [isE] at h
    split at h
    · simp only [Bool.and_eq_true] at h
      simp only [evE]
      exact n_binN h.1.1 (by cases op <;> simp [isNew] at hn ⊢) (okE a C hX _ h.1.2) (okE b C hX _ h.2)
    · cases h
  | .comp own t it e, X, S, C, hX, x, _, h => by
    simp only [isE] at h
    split at h
    · rename_i z tg i a scope pos
      simp only [Bool.and_eq_true, decide_eq_true_eq] at h
      obtain ⟨⟨⟨⟨⟨e1, h2⟩, h3⟩, h4⟩, h5⟩, h6⟩ := h
      subst e1
      simp only [evE]
      have ok : BlkOk X.N X.env.scope scope own := by rw [hX.n, hX.sc]; exact blkOk_by h2
      have hi := okI it C hX tg i h4
      exact n_compN hX.calm hX.nd hi.1 ok h3 (fun s H c cl fp => okTg (hX.blk s H scope c cl fp) t tg h5) (fun s H c cl fp => okE e (C.blk s H scope _ fp) (hX.blk s H scope c cl fp) z h6) hi.2
    · cases h
  | .compIf own t it c e, X, S, C, hX, x, _, h => by
    simp only [isE] at h
    split at h
    · rename_i z tg i y a scope pos
      simp only [Bool.and_eq_true, decide_eq_true_eq] at h
      obtain ⟨⟨⟨⟨⟨⟨e1, h2⟩, h3⟩, h4⟩, h5⟩, h7⟩, h6⟩ := h
      subst e1
      simp only [evE]
      have ok : BlkOk X.N X.env.scope scope own := by rw [hX.n, hX.sc]; exact blkOk_by h2
      have hi := okI it C hX tg i h4
      exact n_compIN hX.calm hX.nd hi.1 ok h3 (fun s H c cl fp => okTg (hX.blk s H scope c cl fp) t tg h5) (fun s H c' cl fp => okT c (C.blk s H scope _ fp) (hX.blk s H scope c' cl fp) y h7) (fun s H c cl fp => okE e (C.blk s H scope _ fp) (hX.blk s H scope c cl fp) z h6) hi.2
    · cases h
  | .nop, X, S, C, hX, x, hn, h | .var _, X, S, C, hX, x, hn, h | .con _, X, S, C, hX, x, hn, h | .glob _, X, S, C, hX, x, hn, h | .neg _, X, S, C, hX, x, hn, h | .cmp _ _ _, X, S, C, hX, x, hn, h | .chain _ _ _ _ _, X, S, C, hX, x, hn, h | .isN _, X, S, C, hX, x, hn, h
  | .notN _, X, S, C, hX, x, hn, h | .and_ _ _, X, S, C, hX, x, hn, h | .and1 _, X, S, C, hX, x, hn, h | .or_ _ _, X, S, C, hX, x, hn, h | .or1 _, X, S, C, hX, x, hn, h | .not_ _, X, S, C, hX, x, hn, h | .ife _ _ _, X, S, C, hX, x, hn, h | .call _ _, X, S, C, hX, x, hn, h | .callP _ _, X, S, C, hX, x, hn, h
  | .bi .len _, X, S, C, hX, x, hn, h | .bi .int _, X, S, C, hX, x, hn, h | .bi .tuple _, X, S, C, hX, x, hn, h | .bi .sum _, X, S, C, hX, x, hn, h | .bi .all _, X, S, C, hX, x, hn, h | .bi .any _, X, S, C, hX, x, hn, h | .bi .max2 _, X, S, C, hX, x, hn, h | .bi .min2 _, X, S, C, hX, x, hn, h | .bi .sorted _, X, S, C, hX, x, hn, h | .bi .min1 _, X, S, C, hX, x, hn, h | .bi .max1 _, X, S, C, hX, x, hn, h | .bi .str _, X, S, C, hX, x, hn, h
  | .isi _ _, X, S, C, hX, x, hn, h | .ix _ _, X, S, C, hX, x, hn, h | .sl _ _ _, X, S, C, hX, x, hn, h | .tup _, X, S, C, hX, x, hn, h | .box _, X, S, C, hX, x, hn, h | .pop _, X, S, C, hX, x, hn, h | .popAt _ _, X, S, C, hX, x, hn, h | .append _ _, X, S, C, hX, x, hn, h | .callF _ _, X, S, C, hX, x, hn, h | .rev _, X, S, C, hX, x, hn, h | .join _ _, X, S, C, hX, x, hn, h | .fmt _, X, S, C, hX, x, hn, h | .fstr _, X, S, C, hX, x, hn, h => by simp [isNew] at hn
termination_by e => (sizeOf e, 0)
/-- tests -/
theorem okT : ∀ (e : E) {X : Cx} {S : Sx_} (C : Cok X n T F G) (hX : XOk X S) (x : Expr), isE T G S e x = true → PT X x (tEvT X.K fun env m => evE F (gv G) e env m)
  | .cmp op a b, X, S, C, hX, x, h => by
    simp only [isE] at h
    split at h
    · simp only [Bool.and_eq_true] at h
      simp only [evE]
      exact t_cmp hX.un h.1.1 (okE a C hX _ h.1.2) (okE b C hX _ h.2) (pl_mark (is_pl h.2) _)
    · cases h
  | .chain o p a b c, X, S, C, hX, x, h => by
    simp only [isE] at h
    split at h
    · simp only [Bool.and_eq_true] at h
      simp only [evE]
      exact t_chain hX.un h.1.1.1.1 h.1.1.1.2 (okE a C hX _ h.1.1.2) (okE b C hX _ h.1.2) (okE c C hX _ h.2) (pl_mark (is_pl h.2) _)
    · cases h
  | .isN a, X, S, C, hX, x, h => by
    simp only [isE] at h
    split at h
    · simp only [evE]
      exact t_isN (okE a C hX _ h)
    · cases h
  | .notN a, X, S, C, hX, x, h => by
    simp only [isE] at h
    split at h
    · simp only [evE]
      exact t_notN (okE a C hX _ h)
    · cases h
  | .and_ a b, X, S, C, hX, x, h => (okW (.and_ a b) C hX x rfl h).pt
  | .and1 a, X, S, C, hX, x, h => (okW (.and1 a) C hX x rfl h).pt
  | .or_ a b, X, S, C, hX, x, h => (okW (.or_ a b) C hX x rfl h).pt
  | .or1 a, X, S, C, hX, x, h => (okW (.or1 a) C hX x rfl h).pt
  | .not_ a, X, S, C, hX, x, h => by
    simp only [isE] at h
    split at h
    · simp only [evE]
      exact t_not (okT a C hX _ h)
    · cases h
  | .ife c a b, X, S, C, hX, x, h => by
    simp only [isE] at h
    split at h
    · simp only [Bool.and_eq_true] at h
      simp only [evE]
      exact t_ife (okT c C hX _ h.1.1) (okT a C hX _ h.1.2) (okT b C hX _ h.2)
    · cases h
  | .box a, X, S, C, hX, x, h => ⟨fun pins s σ H Q I ⟨Z, ph, env, m, re, wd, d, m', e, q⟩ => by
      simp only [evE] at e
      obtain ⟨p, h1, e⟩ := Option.bind_eq_some_iff.mp e
      split at e <;> cases e⟩
  | .nop, X, S, C, hX, x, h => by simp [isE] at h
  | .var i, X, S, C, hX, x, h => t_val (okE (.var i) C hX x h) (tru_plain h trivial _)
  | .con i, X, S, C, hX, x, h => t_val (okE (.con i) C hX x h) (tru_plain h trivial _)
  | .glob i, X, S, C, hX, x, h => t_val (okE (.glob i) C hX x h) (tru_plain h trivial _)
  | .bin i j k, X, S, C, hX, x, h => t_val (okE (.bin i j k) C hX x h) (tru_plain h trivial _)
  | .neg i, X, S, C, hX, x, h => t_val (okE (.neg i) C hX x h) (tru_plain h trivial _)
  | .call i j, X, S, C, hX, x, h => t_val (okE (.call i j) C hX x h) (tru_plain h trivial _)
  | .callP i j, X, S, C, hX, x, h => t_val (okE (.callP i j) C hX x h) (tru_plain h trivial _)
  | .callF i j, X, S, C, hX, x, h => t_val (okE (.callF i j) C hX x h) (tru_plain h trivial _)
  | .bi i j, X, S, C, hX, x, h => t_val (okE (.bi i j) C hX x h) (tru_plain h trivial _)
  | .isi i j, X, S, C, hX, x, h => t_val (okE (.isi i j) C hX x h) (tru_plain h trivial _)
  | .listRg i, X, S, C, hX, x, h => t_val (okE (.listRg i) C hX x h) (tru_plain h trivial _)
  | .ix i j, X, S, C, hX, x, h => t_val (okE (.ix i j) C hX x h) (tru_plain h trivial _)
  | .sl i j k, X, S, C, hX, x, h => t_val (okE (.sl i j k) C hX x h) (tru_plain h trivial _)
  | .tup i, X, S, C, hX, x, h => t_val (okE (.tup i) C hX x h) (tru_plain h trivial _)
  | .lst i, X, S, C, hX, x, h => t_val (okE (.lst i) C hX x h) (tru_plain h trivial _)
  | .comp i j k l, X, S, C, hX, x, h => t_val (okE (.comp i j k l) C hX x h) (tru_plain h trivial _)
  | .compIf i j k l o, X, S, C, hX, x, h => t_val (okE (.compIf i j k l o) C hX x h) (tru_plain h trivial _)
  | .pop i, X, S, C, hX, x, h => t_val (okE (.pop i) C hX x h) (tru_plain h trivial _)
  | .popAt i j, X, S, C, hX, x, h => t_val (okE (.popAt i j) C hX x h) (tru_plain h trivial _)
  | .append i j, X, S, C, hX, x, h => t_val (okE (.append i j) C hX x h) (tru_plain h trivial _)
  | .rev i, X, S, C, hX, x, h => t_val (okE (.rev i) C hX x h) (tru_plain h trivial _)
  | .join i j, X, S, C, hX, x, h => t_val (okE (.join i j) C hX x h) (tru_plain h trivial _)
  | .fmt i, X, S, C, hX, x, h => t_val (okE (.fmt i) C hX x h) (tru_plain h trivial _)
  | .fstr i, X, S, C, hX, x, h => t_val (okE (.fstr i) C hX x h) (tru_plain h trivial _)
termination_by e => (sizeOf e, 2)
theorem okW : ∀ (e : E) {X : Cx} {S : Sx_} (C : Cok X n T F G) (hX : XOk X S) (x : Expr), isBO e = true → isE T G S e x = true → PW X x (tEvT X.K fun env m => evE F (gv G) e env m)
  | .and_ a b, X, S, C, hX, x, _, h => by
    simp only [isE] at h
    split at h
    · simp only [Bool.and_eq_true] at h
      simp only [evE]
      have hb : isBO b = true := isBO_of h.2
      exact w_and (okT a C hX _ h.1) (okW b C hX _ hb h.2)
    · cases h
  | .and1 a, X, S, C, hX, x, _, h => by
    simp only [isE] at h
    split at h
    · simp only [evE]
      exact w_and1 (okT a C hX _ h)
    · cases h
  | .or_ a b, X, S, C, hX, x, _, h => by
    simp only [isE] at h
    split at h
    · simp only [Bool.and_eq_true] at h
      simp only [evE]
      have hb : isBO b = true := isBO_of h.2
      exact w_or (okT a C hX _ h.1) (okW b C hX _ hb h.2)
    · cases h
  | .or1 a, X, S, C, hX, x, _, h => by
    simp only [isE] at h
    split at h
    · simp only [evE]
      exact w_or1 (okT a C hX _ h)
    · cases h
  | .nop, X, S, C, hX, x, hn, h | .var _, X, S, C, hX, x, hn, h | .con _, X, S, C, hX, x, hn, h | .glob _, X, S, C, hX, x, hn, h | .bin _ _ _, X, S, C, hX, x, hn, h | .neg _, X, S, C, hX, x, hn, h | .cmp _ _ _, X, S, C, hX, x, hn, h | .chain _ _ _ _ _, X, S, C, hX, x, hn, h | .isN _, X, S, C, hX, x, hn, h
  | .notN _, X, S, C, hX, x, hn, h | .not_ _, X, S, C, hX, x, hn, h | .ife _ _ _, X, S, C, hX, x, hn, h | .call _ _, X, S, C, hX, x, hn, h | .callP _ _, X, S, C, hX, x, hn, h | .bi _ _, X, S, C, hX, x, hn, h | .listRg _, X, S, C, hX, x, hn, h | .lst _, X, S, C, hX, x, hn, h | .comp _ _ _ _, X, S, C, hX, x, hn, h | .compIf _ _ _ _ _, X, S, C, hX, x, hn, h
  | .isi _ _, X, S, C, hX, x, hn, h | .ix _ _, X, S, C, hX, x, hn, h | .sl _ _ _, X, S, C, hX, x, hn, h | .tup _, X, S, C, hX, x, hn, h | .box _, X, S, C, hX, x, hn, h | .pop _, X, S, C, hX, x, hn, h | .popAt _ _, X, S, C, hX, x, hn, h | .append _ _, X, S, C, hX, x, hn, h | .callF _ _, X, S, C, hX, x, hn, h | .rev _, X, S, C, hX, x, hn, h | .join _ _, X, S, C, hX, x, hn, h | .fmt _, X, S, C, hX, x, hn, h | .fstr _, X, S, C, hX, x, hn, h => by cases hn
termination_by e => (sizeOf e, 1)
theorem okA : ∀ (es : Es) {X : Cx} {S : Sx_} (C : Cok X n T F G) (hX : XOk X S) (xs : List Expr), isEs T G S es xs = true → PA X xs (tEvA X.K fun env m => evA F (gv G) es env m)
  | .nil, X, S, C, hX, xs, h => by
    simp only [isEs] at h
    split at h
    · simp only [evA]
      exact a_nil
    · cases h
  | .cons e es, X, S, C, hX, xs, h => by
    simp only [isEs] at h
    split at h
    · simp only [Bool.and_eq_true] at h
      simp only [evA]
      exact a_cons (okE e C hX _ h.1) (okA es C hX _ h.2) (pl_star (is_pl h.1) _ _)
    · cases h
termination_by es => (sizeOf es, 0)
theorem okJ : ∀ (es : Es) {X : Cx} {S : Sx_} (C : Cok X n T F G) (hX : XOk X S) (xs : List Expr), isEs T G S es xs = true → PJ X xs (tesOf X.K F (gv G) es)
  | .nil, X, S, C, hX, xs, h => by
    simp only [isEs] at h
    split at h
    · exact .nil
    · cases h
  | .cons e es, X, S, C, hX, xs, h => by
    simp only [isEs] at h
    split at h
    · simp only [Bool.and_eq_true] at h
      exact .cons (okE e C hX _ h.1) (okJ es C hX _ h.2)
    · cases h
termination_by es => (sizeOf es, 0)
theorem okI : ∀ (it : It) {X : Cx} {S : Sx_} (C : Cok X n T F G) (hX : XOk X S) (tg x : Expr), isI T G S it x (isTupE tg) = true → PI X tg x (tEvI X.K fun env m => evI F (gv G) it env m) ∧ ∀ v, foldedSetIterable x X.env v = pure v
  | .seq e, X, S, C, hX, tg, x, h => by
    simp only [isI] at h
    simp only [evI]
    exact ⟨i_seq (okE e C hX _ h), fun v => pl_fold (is_pl h) _ v⟩
  | .rng1 e, X, S, C, hX, tg, x, h => by
    simp only [isI] at h
    split at h
    · simp only [Bool.and_eq_true, decide_eq_true_eq] at h
      obtain ⟨⟨e1, g1⟩, h⟩ := h
      subst e1
      simp only [evI]
      exact ⟨i_rng1 (glB_ok hX g1).1 (C.bl _ (by decide)) (okE e C hX _ h) (pl_star (is_pl h) _ _), fun _ => rfl⟩
    · cases h
  | .rng2 a b, X, S, C, hX, tg, x, h => by
    simp only [isI] at h
    split at h
    · simp only [Bool.and_eq_true, decide_eq_true_eq] at h
      obtain ⟨⟨⟨e1, g1⟩, h⟩, h'⟩ := h
      subst e1
      simp only [evI]
      exact ⟨i_rng2 (glB_ok hX g1).1 (C.bl _ (by decide)) (okE a C hX _ h) (okE b C hX _ h') (pl_star (is_pl h) _ _) (pl_star (is_pl h') _ _), fun _ => rfl⟩
    · cases h
  | .zip a b, X, S, C, hX, tg, x, h => by
    simp only [isI] at h
    split at h
    · simp only [Bool.and_eq_true, decide_eq_true_eq] at h
      obtain ⟨⟨⟨⟨e0, e1⟩, g1⟩, h⟩, h'⟩ := h
      subst e1
      simp only [evI]
      cases tg <;> simp only [isTupE, Bool.false_eq_true] at e0
      exact ⟨i_zip (glB_ok hX g1).1 (C.bl _ (by decide)) (okE a C hX _ h) (okE b C hX _ h') (pl_star (is_pl h) _ _) (pl_star (is_pl h') _ _), fun _ => rfl⟩
    · cases h
  | .zipS a b, X, S, C, hX, tg, x, h => by
    simp only [isI] at h
    split at h
    · simp only [Bool.and_eq_true, decide_eq_true_eq] at h
      obtain ⟨⟨⟨⟨⟨e0, e1⟩, e2⟩, g1⟩, h⟩, h'⟩ := h
      subst e1 e2
      simp only [evI]
      cases tg <;> simp only [isTupE, Bool.false_eq_true] at e0
      exact ⟨i_zipS (glB_ok hX g1).1 (C.bl _ (by decide)) (okE a C hX _ h) (okE b C hX _ h') (pl_star (is_pl h) _ _) (pl_star (is_pl h') _ _), fun _ => rfl⟩
    · cases h
termination_by it => (sizeOf it, 0)
end
end
end Pv

namespace Pv
open PySem L2

abbrev RS := Env → M → R
def FlQ (K : PySem.W.Frag) (Z : Addr → Prop) (ph : List Addr) (H : Hp) (E : Ends) (fl : Fl) (env' : Env) (m' : M) : Prop :=
  ∀ ph' H' σ', Sx ph H ph' H' → Wd K Z ph' m' H' → RepE K Z ph' H' σ' env' → match fl with
    | .nx => E.nx σ' H'
    | .bk => E.bk σ' H'
    | .ct => E.ct σ' H'
    | .rt d => ∀ v, RepV K Z ph' H' v d → E.rt v H'
def tEvS (K : PySem.W.Frag) (r : RS) : TS := fun E σ H => ∃ Z ph env m, RepE K Z ph H σ env ∧ Wd K Z ph m H ∧ ∃ fl env' m', r env m = some (fl, env', m') ∧ FlQ K Z ph H E fl env' m'
section
variable {K : PySem.W.Frag} {Z : Addr → Prop} {ph ph1 : List Addr} {H H1 : Hp} {m m' : M} {env env' : Env} {σ : L2.St} {E : Ends} {fl : Fl}
theorem FlQ.after (q : FlQ K Z ph H E fl env' m') (s : Sx ph H ph1 H1) : FlQ K Z ph1 H1 E fl env' m' := fun ph' H' σ' s' w r => q ph' H' σ' (s.trans s') w r
end
section
variable {X : Cx} {x y w : Expr} {pos p : Pos} {ra rb rc : RE} {rs rt : RS}
def rAsg_ (t : Tg) (ra : RE) : RS := fun env m => (ra env m).bind fun p => (bindTg p.2 t p.1 env).map fun e => (.nx, e, p.2)
theorem asg_read {K : PySem.W.Frag} {t : Tg} {ra : RE} (E : Ends) (σ : L2.St) (H : Hp) (h : tEvS K (rAsg_ t ra) E σ H) : tAsg (tEv K ra) (gT K t) E σ H := by
  obtain ⟨Z, ph, env, m, re, wd, fl, env', m', e, q⟩ := h
  obtain ⟨p, h1, e⟩ := Option.bind_eq_some_iff.mp e
  obtain ⟨e1, h2, e⟩ := Option.map_eq_some_iff.mp e
  cases e
  exact ev_of re wd h1 fun ph1 H1 v s1 w1 re1 r1 => ⟨Z, ph1, env, p.2, p.1, _, re1, w1, r1, h2, fun σ' re' _ => q ph1 H1 σ' s1 w1 re'⟩
theorem s_asg {tg : Expr} {t : Tg} (he : PE X x (tEv X.K ra)) (hg : PG X tg (gT X.K t)) (hs : swapsWithSole [tg] x pos.line X.env = pure false) (hw : swappedStores [tg] x X.env = pure none) (h1 : (assignEach [tg] X.env).map (·.2) = [assign tg X.env]) :
    PS X (.Assign [tg] x pos) (tEvS X.K (rAsg_ t ra)) := ps_imp (ps_asg he hg hs hw h1) asg_read
/-- name = a new list that a comprehension makes: the list as a value, as a mutable thing -/
theorem setN_read {K : PySem.W.Frag} {i : Nat} {r : RE} {te : TE} (hn : ∀ σ H Q, tEvN K r σ H Q → te σ H Q) (hr : ∀ env m d m', r env m = some (d, m') → ∃ ds, d = .lst ds) (E : Ends) (σ : L2.St) (H : Hp) (h : tEvS K (rAsg_ (.nm i) r) E σ H) : tAsg te (gName i) E σ H := by
  obtain ⟨Z, ph, env, m, re, wd, fl, env', m', e, q⟩ := h
  obtain ⟨p, h1, e⟩ := Option.bind_eq_some_iff.mp e
  obtain ⟨e1, h2, e⟩ := Option.map_eq_some_iff.mp e
  cases e
  simp only [bindTg] at h2
  cases h2
  obtain ⟨ds, hp⟩ := hr _ _ _ _ (show r env m = some (p.1, p.2) from h1)
  refine hn _ _ _ ⟨Z, ph, env, m, re, wd, ds, p.2, by rw [h1, ← hp], ?_⟩
  refine PV.np wd fun ph' H' u s w' r' => ?_
  refine q ph' H' _ s w' ?_
  rw [hp]
  exact (re.mono s).set r' i
def rBox_ (r : RE) : RE := fun env m => (r env m).bind fun p => match p.1 with | .lst xs => some (.ref p.2.length, p.2 ++ [.lst xs]) | _ => none
theorem setB_read {K : PySem.W.Frag} {i : Nat} {r : RE} {te : TE} (hn : ∀ σ H Q, tEvN K r σ H Q → te σ H Q) (E : Ends) (σ : L2.St) (H : Hp) (h : tEvS K (rAsg_ (.nm i) (rBox_ r)) E σ H) : tAsg te (gName i) E σ H := by
  obtain ⟨Z, ph, env, m, re, wd, fl, env', m', e, q⟩ := h
  obtain ⟨p, h1, e⟩ := Option.bind_eq_some_iff.mp e
  obtain ⟨e1, h2, e⟩ := Option.map_eq_some_iff.mp e
  cases e
  simp only [bindTg] at h2
  cases h2
  obtain ⟨p0, h0, h1⟩ := Option.bind_eq_some_iff.mp h1
  split at h1
  · rename_i ds hp
    cases h1
    refine hn _ _ _ ⟨Z, ph, env, m, re, wd, ds, p0.2, by rw [h0, ← hp], fun ph' H' a vs hn ha hna s w r => ?_⟩
    have s' : Sx ph H (ph' ++ [a]) H' := by
      refine ⟨?_, fun b hb => ?_, s.fr, s.ft, s.old⟩
      · obtain ⟨x, e⟩ := s.ext
        exact ⟨x ++ [a], by rw [e, List.append_assoc]⟩
      · rcases List.mem_append.mp hb with hb | hb
        · exact s.new b hb
        · have e : b = a := by simpa using hb
          subst e
          exact .inr hn
    refine q (ph' ++ [a]) H' _ s' (w.box ha hna r) ((re.mono s').set (.ref ?_) i)
    rw [← w.len]; simp
  · cases h1
def rSetix_ (ro ri ra : RE) : RS := fun env m => (ra env m).bind fun p => (ro env p.2).bind fun q => (ri env q.2).bind fun r => match q.1, r.1 with
  | .ref l, .int k => match r.2[l]? with
    | some (.lst xs) => match ixAt xs.length k with
      | some j => some (.nx, env, r.2.set l (.lst (xs.set j p.1)))
      | none => none
    | none => none
  | _, _ => none
theorem s_setix {o i : Expr} {ro ri : RE} (hpl : plB i = true) (he : PE X x (tEv X.K ra)) (ho : PE X o (tEv X.K ro)) (hi : PE X i (tEv X.K ri)) (hs : swapsWithSole [.Subscript o i p] x pos.line X.env = pure false) : PS X (.Assign [.Subscript o i p] x pos) (tEvS X.K (rSetix_ ro ri ra)) :=
  ps_imp (ps_asg he (pg_sub ho hi set_list (by cases i <;> first | (intro _; rfl) | cases hpl)) hs rfl rfl) fun E σ H ⟨Z, ph, env, m, re, wd, fl, env', m', e, q⟩ => by
    obtain ⟨p, h1, e⟩ := Option.bind_eq_some_iff.mp e
    obtain ⟨p2, h2, e⟩ := Option.bind_eq_some_iff.mp e
    obtain ⟨p3, h3, e⟩ := Option.bind_eq_some_iff.mp e
    split at e
    · rename_i l k hl hk
      split at e
      · rename_i xs hx
        split at e
        · rename_i j hj
          cases e
          refine ev_of re wd h1 fun ph1 H1 v s1 w1 re1 r1 => ev_of re1 w1 h2 fun ph2 H2 u s2 w2 re2 r2 => ev_of re2 w2 h3 fun ph3 H3 z s3 w3 re3 r3 => ?_
          have r2 := r2.mono s3
          rw [hl] at r2
          rw [hk] at r3
          cases r3
          cases r2 with
          | @ref a l ha =>
            obtain ⟨vs, g1, g2⟩ := w3.at hx ha
            refine ⟨a, vs, k, j, rfl, rfl, g1, by rw [g2.len]; exact hj, ?_⟩
            have sw : Sx ph3 H3 ph3 (upd H3 a (.lst (vs.set j v))) := Sx.write w3 ha
            exact q ph3 _ σ (((s1.trans s2).trans s3).trans sw) (w3.write ha (g2.set ((r1.mono s2).mono s3) j)) (re3.mono sw)
        · cases e
      · cases e
    · cases e
def rAug_ (i : Nat) (op : BOp) (ra : RE) : RS := fun env m => match env[i]? with
  | some (some (.int a)) => (ra env m).bind fun p => match p.1 with
    | .int b => match op with
      | .add => some (.nx, env.set i (some (.int (a + b))), p.2)
      | .sub => some (.nx, env.set i (some (.int (a - b))), p.2)
      | _ => none
    | _ => none
  | _ => none
theorem s_aug {i : Nat} {s : Str} {op : BOp} {o : Operator} (hb : bopB op o = true) (hN : X.N.Nodup) (hi : X.N[i]? = some s) (hx : L2.Loc X.env.scope s) (hf : X.fn s = true ∨ X.env.scope.names.lookup s = some .local) (he : PE X x (tEv X.K ra)) :
    PS X (.AugAssign (.Name s p) o x pos) (tEvS X.K (rAug_ i op ra)) := by
  cases op <;> cases o <;> first | (exact absurd hb (by decide)) | skip
  · exact ps_imp (ps_aug hN hi hx he ip_add hf) fun E σ H ⟨Z, ph, env, m, re, wd, fl, env', m', e, q⟩ => by
      simp only [rAug_] at e
      split at e
      · rename_i a ha
        obtain ⟨p, h1, e⟩ := Option.bind_eq_some_iff.mp e
        split at e
        · rename_i b hb
          cases e
          obtain ⟨v, h2, r2⟩ := re.at_ i _ ha
          cases r2
          refine ⟨_, h2, ev_of re wd h1 fun ph1 H1 v s1 w1 re1 r1 => ?_⟩
          rw [hb] at r1
          cases r1
          exact ⟨a, b, rfl, rfl, q ph1 H1 _ s1 w1 (re1.set (.int _) i)⟩
        · cases e
      · cases e
  · exact ps_imp (ps_aug hN hi hx he ip_sub hf) fun E σ H ⟨Z, ph, env, m, re, wd, fl, env', m', e, q⟩ => by
      simp only [rAug_] at e
      split at e
      · rename_i a ha
        obtain ⟨p, h1, e⟩ := Option.bind_eq_some_iff.mp e
        split at e
        · rename_i b hb
          cases e
          obtain ⟨v, h2, r2⟩ := re.at_ i _ ha
          cases r2
          refine ⟨_, h2, ev_of re wd h1 fun ph1 H1 v s1 w1 re1 r1 => ?_⟩
          rw [hb] at r1
          cases r1
          exact ⟨a, b, rfl, rfl, q ph1 H1 _ s1 w1 (re1.set (.int _) i)⟩
        · cases e
      · cases e
  all_goals exact ⟨fun pins s σ H D I ⟨Z, ph, env, m, re, wd, fl, env', m', e, q⟩ => by
      exfalso
      simp only [rAug_] at e
      split at e
      · obtain ⟨p, h1, e⟩ := Option.bind_eq_some_iff.mp e
        split at e <;> cases e
      · cases e⟩
theorem s_ex (he : PE X x (tEv X.K ra)) (hs : swapsWith x none pos.line X.env = pure false) : PS X (.Expr x pos) (tEvS X.K fun env m => (ra env m).map fun p => (.nx, env, p.2)) :=
  ps_imp (ps_expr he hs) fun E σ H ⟨Z, ph, env, m, re, wd, fl, env', m', e, q⟩ => by
    obtain ⟨p, h1, e⟩ := Option.map_eq_some_iff.mp e
    cases e
    exact ev_of re wd h1 fun ph1 H1 v s1 w1 re1 r1 => q ph1 H1 σ s1 w1 re1
theorem s_ret (he : PE X x (tEv X.K ra)) : PS X (.Return (some x) pos) (tEvS X.K fun env m => (ra env m).map fun p => (.rt p.1, env, p.2)) :=
  ps_imp (ps_ret he) fun E σ H ⟨Z, ph, env, m, re, wd, fl, env', m', e, q⟩ => by
    obtain ⟨p, h1, e⟩ := Option.map_eq_some_iff.mp e
    cases e
    exact ev_of re wd h1 fun ph1 H1 v s1 w1 re1 r1 => q ph1 H1 σ s1 w1 re1 v r1
theorem s_brk : PS X (.Break pos) (tEvS X.K fun env m => some (.bk, env, m)) :=
  ps_imp ps_break fun E σ H ⟨Z, ph, env, m, re, wd, fl, env', m', e, q⟩ => by cases e; exact q ph H σ Sx.refl wd re
theorem s_cont : PS X (.Continue pos) (tEvS X.K fun env m => some (.ct, env, m)) :=
  ps_imp ps_continue fun E σ H ⟨Z, ph, env, m, re, wd, fl, env', m', e, q⟩ => by cases e; exact q ph H σ Sx.refl wd re
def rIfS_ (rc : RE) (rs rt : RS) : RS := fun env m => (rc env m).bind fun p => match p.1 with
  | .bl true => rs env p.2
  | .bl false => rt env p.2
  | _ => none
theorem s_if {a b : List Stmt} (hc : PT X x (tEvT X.K rc)) (ha : PSs X a (tEvS X.K rs)) (hb : PSs X b (tEvS X.K rt)) : PS X (.If x a b pos) (tEvS X.K (rIfS_ rc rs rt)) :=
  ps_imp (ps_if hc ha hb) fun E σ H ⟨Z, ph, env, m, re, wd, fl, env', m', e, q⟩ => by
    obtain ⟨p, h1, e⟩ := Option.bind_eq_some_iff.mp e
    split at e
    · rename_i hp
      exact evt_of re wd (b := true) (m1 := p.2) (by rw [h1, ← hp]) fun ph1 H1 s1 w1 re1 => iteT ⟨Z, ph1, env, p.2, re1, w1, fl, env', m', e, q.after s1⟩
    · rename_i hp
      exact evt_of re wd (b := false) (m1 := p.2) (by rw [h1, ← hp]) fun ph1 H1 s1 w1 re1 => iteF ⟨Z, ph1, env, p.2, re1, w1, fl, env', m', e, q.after s1⟩
    · cases e
theorem ss_nil : PSs X [] (tEvS X.K fun env m => some (.nx, env, m)) := pss_imp pss_nil fun E σ H ⟨Z, ph, env, m, re, wd, fl, env', m', e, q⟩ => by cases e; exact q ph H σ Sx.refl wd re
def rSeqS_ (rs rt : RS) : RS := fun env m => (rs env m).bind fun r => match r.1 with
  | .nx => rt r.2.1 r.2.2
  | _ => some r
theorem ss_cons {st : Stmt} {rest : List Stmt} (h : PS X st (tEvS X.K rs)) (h2 : PSs X rest (tEvS X.K rt)) : PSs X (st :: rest) (tEvS X.K (rSeqS_ rs rt)) :=
  pss_imp (pss_cons h h2) fun E σ H ⟨Z, ph, env, m, re, wd, fl, env', m', e, q⟩ => by
    obtain ⟨⟨fl1, env1, m1⟩, h1, e⟩ := Option.bind_eq_some_iff.mp e
    refine ⟨Z, ph, env, m, re, wd, fl1, env1, m1, h1, fun ph' H' σ' s w re' => ?_⟩
    cases fl1 with
    | nx => exact ⟨Z, ph', env1, m1, re', w, fl, env', m', e, q.after s⟩
    | rt d => cases e; exact q ph' H' σ' s w re'
    | bk => cases e; exact q ph' H' σ' s w re'
    | ct => cases e; exact q ph' H' σ' s w re'

/-! ### loops -/
variable {ri : RA} {t : Tg} {body : List Stmt} {tg it : Expr}
theorem for_run {K : PySem.W.Frag} {σ : L2.St} {H1 : Hp} {E : Ends} {Z : Addr → Prop} {ph1 : List Addr} {env env' : Env} {m m' : M} {items : List D} {J : L2.It} {fl : Fl} {t : Tg} {rs : RS}
    (re : RepE K Z ph1 H1 σ env) (wd : Wd K Z ph1 m H1) (yd : Ydl K Z ph1 H1 J items) (e : forL t rs items env m = some (fl, env', m')) (q : FlQ K Z ph1 H1 E fl env' m') :
    ∃ W : Nat → Nat → L2.St → Hp → Prop, (∃ k, W 0 k σ H1) ∧ ∀ i k σ H, W i k σ H →
      (J.stop i H ∧ E.nx σ H) ∨ (J.go i H ∧ ∃ N : L2.St → Hp → Prop, (∀ σ' H', N σ' H' → ∃ k', k' < k ∧ W (i + 1) k' σ' H') ∧ ∀ x H', J.yld i H x H' → gT K t x σ H' fun σ2 H2 => tEvS K rs { E with nx := N, ct := N, bk := E.nx } σ2 H2) := by
  refine ⟨fun i k σ H => k = items.length - i ∧ i ≤ items.length ∧ ∃ ph2 m2 env2, Sx ph1 H1 ph2 H ∧ Wd K Z ph2 m2 H ∧ RepE K Z ph2 H σ env2 ∧ forL t rs (items.drop i) env2 m2 = some (fl, env', m'), ⟨items.length, by simp, Nat.zero_le _, ph1, m, env, Sx.refl, wd, re, by simpa using e⟩, ?_⟩
  rintro i k σ H ⟨rfl, hi, ph2, m2, env2, s2, w2, re2, hg⟩
  by_cases hlt : i < items.length
  · refine .inr ⟨yd.go i ph2 H hlt s2, fun σ H => i + 1 ≤ items.length ∧ ∃ ph2 m2 env2, Sx ph1 H1 ph2 H ∧ Wd K Z ph2 m2 H ∧ RepE K Z ph2 H σ env2 ∧ forL t rs (items.drop (i + 1)) env2 m2 = some (fl, env', m'), fun σ' H' h => ⟨items.length - (i + 1), by omega, rfl, h⟩, fun x H' hy => ?_⟩
    obtain ⟨hg', d, hd, rx⟩ := yd.yld Z i ph2 H x H' (fun a ha => .inl ha) hlt s2 hy
    have s3 : Sx ph2 H ph2 H' := Sx.grow (x := x) hg'
    have w3 : Wd K Z ph2 m2 H' := w2.grow hg'
    have hdr : items.drop i = d :: items.drop (i + 1) := by
      have e2 : items[i] = d := by rw [List.getElem?_eq_getElem hlt] at hd; exact Option.some.inj hd
      rw [List.drop_eq_getElem_cons hlt, e2]
    rw [hdr] at hg
    simp only [forL] at hg
    obtain ⟨e1, b1, hg⟩ := Option.bind_eq_some_iff.mp hg
    obtain ⟨⟨fl1, env1, m1⟩, b2, hg⟩ := Option.bind_eq_some_iff.mp hg
    refine ⟨Z, ph2, env2, m2, d, e1, re2.mono s3, w3, rx, b1, fun σ' re' _ => ⟨Z, ph2, e1, m2, re', w3, fl1, env1, m1, b2, fun ph4 H4 σ4 s4 w4 re4 => ?_⟩⟩
    cases fl1 with
    | nx => exact ⟨hlt, ph4, m1, env1, (s2.trans s3).trans s4, w4, re4, hg⟩
    | ct => exact ⟨hlt, ph4, m1, env1, (s2.trans s3).trans s4, w4, re4, hg⟩
    | bk => cases hg; exact q ph4 H4 σ4 ((s2.trans s3).trans s4) w4 re4
    | rt d => cases hg; exact q ph4 H4 σ4 ((s2.trans s3).trans s4) w4 re4
  · have ei : i = items.length := by omega
    subst ei
    rw [List.drop_length] at hg
    simp only [forL] at hg
    cases hg
    exact .inl ⟨yd.stop ph2 H s2, q ph2 H σ s2 w2 re2⟩
theorem s_for (hp : PassesOwn (model X.prog X.w) X.A X.env X.xe) (hc : X.calm = true) (hi : PI X tg it (tEvI X.K ri)) (hg : PG X tg (gT X.K t)) (hb : PSs X body (tEvS X.K rs)) (hs : ∀ v, foldedSetIterable it X.env v = pure v) :
    PS X (.For tg it body [] pos) (tEvS X.K fun env m => (ri env m).bind fun p => forL t rs p.1 env p.2) :=
  ps_imp (ps_for hp hc hi hg hb hs) fun E σ H ⟨Z, ph, env, m, re, wd, fl, env', m', e, q⟩ => by
    obtain ⟨p, h1, e⟩ := Option.bind_eq_some_iff.mp e
    exact ⟨Z, ph, env, m, re, wd, p.1, p.2, h1, fun ph1 H1 J s1 w1 yd => for_run (re.mono s1) w1 yd e (q.after s1)⟩
theorem s_while (hp : PassesOwn (model X.prog X.w) X.A X.env X.xe) (hc : PT X x (tEvT X.K rc)) (hb : PSs X body (tEvS X.K rs)) : PS X (.While x body [] pos) (tEvS X.K fun env m => whileL rc rs turns env m) :=
  ps_imp (ps_while hp hc hb) fun E σ H ⟨Z, ph, env, m, re, wd, fl, env', m', e, q⟩ => by
    refine ⟨fun k σ2 H2 => ∃ ph2 m2 env2, Sx ph H ph2 H2 ∧ Wd X.K Z ph2 m2 H2 ∧ RepE X.K Z ph2 H2 σ2 env2 ∧ whileL rc rs k env2 m2 = some (fl, env', m'), ⟨turns, ph, m, env, Sx.refl, wd, re, e⟩, ?_⟩
    rintro k σ2 H2 ⟨ph2, m2, env2, s2, w2, re2, hg⟩
    cases k with
    | zero => simp [whileL] at hg
    | succ k =>
      simp only [whileL] at hg
      obtain ⟨c, h1, hg⟩ := Option.bind_eq_some_iff.mp hg
      split at hg
      · rename_i hp
        obtain ⟨⟨fl1, env1, m1⟩, b2, hg⟩ := Option.bind_eq_some_iff.mp hg
        refine evt_of re2 w2 (b := true) (m1 := c.2) (by rw [h1, ← hp]) fun ph3 H3 s3 w3 re3 => iteT ?_
        refine ⟨fun σ' H' => ∃ ph2 m2 env2, Sx ph H ph2 H' ∧ Wd X.K Z ph2 m2 H' ∧ RepE X.K Z ph2 H' σ' env2 ∧ whileL rc rs k env2 m2 = some (fl, env', m'), fun σ' H' h => ⟨k, Nat.lt_succ_self k, h⟩, Z, ph3, env2, c.2, re3, w3, fl1, env1, m1, b2, fun ph4 H4 σ4 s4 w4 re4 => ?_⟩
        cases fl1 with
        | nx => exact ⟨ph4, m1, env1, (s2.trans s3).trans s4, w4, re4, hg⟩
        | ct => exact ⟨ph4, m1, env1, (s2.trans s3).trans s4, w4, re4, hg⟩
        | bk => cases hg; exact q ph4 H4 σ4 ((s2.trans s3).trans s4) w4 re4
        | rt d => cases hg; exact q ph4 H4 σ4 ((s2.trans s3).trans s4) w4 re4
      · rename_i hp
        cases hg
        exact evt_of re2 w2 (b := false) (m1 := c.2) (by rw [h1, ← hp]) fun ph3 H3 s3 w3 re3 => iteF (q ph3 H3 σ2 (s2.trans s3) w3 re3)
      · cases hg
end
end Pv

namespace Pv
open PySem L2

/-! ## the check of statements -/
def isLC : Expr → Bool
  | .ListComp .. => true
  | _ => false
/-- whether a store is done within the comprehension's frame -/
def swV (S : Sx_) (tg x : Expr) : Bool := match x with
  | .ListComp _ _ scope vp => match tg with
    | .Name t p => decide (S.sc.names.lookup t = some .local) && (p.line == vp.line) && !(scope.names.any fun (n, k) => n == t && (k == .local || k == .cell))
    | _ => false
  | _ => false
section
variable (T : List FnD) (G : List (Str × D))
mutual
def isS (c_ : Sx_) : S → Stmt → Bool
  | .asg t e, st => match st with
    | .Assign [tg] x _ => isTg c_ t tg && isE T G c_ e x && !(isTupE tg && isTupE x)
    | _ => false
  | .setix o i e, st => match st with
    | .Assign [.Subscript xo xi _] x _ => isE T G c_ o xo && isE T G c_ i xi && isE T G c_ e x
    | _ => false
  | .aug i op e, st => match st with
    | .AugAssign (.Name s _) o x _ => bopB op o && decide (c_.N[i]? = some s) && locB c_ s && isE T G c_ e x
    | _ => false
  | .ex e, st => match st with
    | .Expr x _ => isE T G c_ e x && !isLC x
    | _ => false
  | .ife c a b, st => match st with
    | .If x ys zs _ => isE T G c_ c x && isB c_ a ys && isB c_ b zs
    | _ => false
  | .for_ t it b, st => match st with
    | .For tg x ys [] _ => isTg c_ t tg && isI T G c_ it x (isTupE tg) && isB c_ b ys
    | _ => false
  | .while_ c b, st => match st with
    | .While x ys [] _ => isE T G c_ c x && isB c_ b ys
    | _ => false
  | .ret e, st => match st with
    | .Return (some x) _ => isE T G c_ e x
    | _ => false
  | .brk, st => match st with
    | .Break _ => true
    | _ => false
  | .cont, st => match st with
    | .Continue _ => true
    | _ => false
def isB (c_ : Sx_) : Ss → List Stmt → Bool
  | .nil, sts => match sts with
    | [] => true
    | _ => false
  | .cons s ss, sts => match sts with
    | st :: r => isS c_ s st && isB c_ ss r
    | _ => false
end
end
theorem sw_eq {X : Cx} {S : Sx_} (hX : XOk X S) (hk : S.sc.kind = .function) {x : Expr} (h : plB x = true) (tg : Expr) (l : Nat) : swapsWith x (some tg) l X.env = pure (swV S tg x) := by
  have hb : X.env.blockKind = .function := by unfold Env.blockKind; rw [hX.sc, hk]; rfl
  cases x <;> first | rfl | (cases h; done) | skip
  rename_i z gs scope vp
  cases tg <;> first | rfl | skip
  rename_i t p
  have ky : X.env.kindOf t = S.sc.names.lookup t := by unfold Env.kindOf; rw [hX.sc]
  unfold swapsWith swV
  simp only [hb, ky, Expr.pos]
  have e : (List.lookup t S.sc.names == some NameKind.local) = decide (List.lookup t S.sc.names = some NameKind.local) := by rw [Bool.eq_iff_iff]; simp
  rw [e]
  rfl
theorem sw_none {X : Cx} {x : Expr} (h : plB x = true) (h' : isLC x = false) (l : Nat) : swapsWith x none l X.env = pure false := by
  cases x <;> first | rfl | (cases h; done) | (cases h'; done)
theorem stores_none {X : Cx} {tg x : Expr} (h : (isTupE tg && isTupE x) = false) {S : Sx_} {t : Tg} (ht : isTg S t tg = true) : swappedStores [tg] x X.env = pure none := by
  cases tg <;> first | rfl | (cases t <;> simp [isTg] at ht; done) | skip
  cases x <;> first | rfl | (cases h; done)
def isCp : E → Bool
  | .comp .. => true
  | .compIf .. => true
  | _ => false
theorem isCp_of {T : List FnD} {G : List (Str × D)} {S : Sx_} {a : E} {z : Expr} {gs : List Comprehension} {sc : Scope} {vp : Pos} (h1 : isNew a = true) (h : isE T G S a (.ListComp z gs sc vp) = true) : isCp a = true := by
  cases a <;> first | rfl | (exfalso; simp [isNew] at h1; done) | (exfalso; simp [isE] at h; done)
section
variable {n : Nat} {T : List FnD} {F : Fn} {G : List (Str × D)}
/-- name = [..] in the comprehension's frame -/
theorem okLc {X : Cx} {S : Sx_} (C : Cok X n T F G) (hX : XOk X S) (hk : S.sc.kind = .function) (e : E) (hn : isCp e = true) {x : Expr} (h : isE T G S e x = true) {i : Nat} {y : Str} {py pos : Pos} (hi : S.N[i]? = some y) (hs : swV S (.Name y py) x = true) :
    ∃ te, PS X (.Assign [.Name y py] x pos) (tAsg te (gName i)) ∧ ∀ σ H Q, tEvN X.K (fun env m => evE F (gv G) e env m) σ H Q → te σ H Q := by
  have hsw := fun l => sw_eq hX hk (is_pl h) (.Name y py) l
  rw [hs] at hsw
  have hy : X.N[i]? = some y := by rw [hX.n]; exact hi
  have hl : ∀ {z gs sc vp}, x = .ListComp z gs sc vp → X.env.scope.names.lookup y = some .local := fun ex => by
    subst ex
    simp only [swV, Bool.and_eq_true, decide_eq_true_eq] at hs
    rw [hX.sc]
    exact hs.1.1
  cases e <;> first | (cases hn; done) | skip
  · rename_i own t it e
    simp only [isE] at h
    split at h
    · rename_i z tg it' a scope vp
      simp only [Bool.and_eq_true, decide_eq_true_eq] at h
      obtain ⟨⟨⟨⟨⟨e1, h2⟩, h3⟩, h4⟩, h5⟩, h6⟩ := h
      subst e1
      have ok : BlkOk X.N X.env.scope scope own := by rw [hX.n, hX.sc]; exact blkOk_by h2
      have hI := okI it C hX tg it' h4
      refine ⟨_, s_setLc hX.calm hX.nd hy (hl rfl) (hsw _) hI.1 ok (fun s H c cl fp => okTg (hX.blk s H scope c cl fp) t tg h5) (fun s H c cl fp => okE e (C.blk s H scope _ fp) (hX.blk s H scope c cl fp) z h6) hI.2, fun σ H Q hq => ?_⟩
      simp only [evE] at hq
      exact comp_read h3 σ H Q hq
    · cases h
  · rename_i own t it c e
    simp only [isE] at h
    split at h
    · rename_i z tg it' y' a scope vp
      simp only [Bool.and_eq_true, decide_eq_true_eq] at h
      obtain ⟨⟨⟨⟨⟨⟨e1, h2⟩, h3⟩, h4⟩, h5⟩, h7⟩, h6⟩ := h
      subst e1
      have ok : BlkOk X.N X.env.scope scope own := by rw [hX.n, hX.sc]; exact blkOk_by h2
      have hI := okI it C hX tg it' h4
      refine ⟨_, s_setLcI hX.calm hX.nd hy (hl rfl) (hsw _) hI.1 ok (fun s H c cl fp => okTg (hX.blk s H scope c cl fp) t tg h5) (fun s H c' cl fp => okT c (C.blk s H scope _ fp) (hX.blk s H scope c' cl fp) y' h7) (fun s H c cl fp => okE e (C.blk s H scope _ fp) (hX.blk s H scope c cl fp) z h6) hI.2, fun σ H Q hq => ?_⟩
      simp only [evE] at hq
      exact compI_read h3 σ H Q hq
    · cases h
theorem okAsg {X : Cx} {S : Sx_} (C : Cok X n T F G) (hX : XOk X S) (hk : S.sc.kind = .function) (t : Tg) (e : E) {tg x : Expr} {pos : Pos} (h1 : isTg S t tg = true) (h2 : isE T G S e x = true) (h3 : (isTupE tg && isTupE x) = false) :
    PS X (.Assign [tg] x pos) (tEvS X.K fun env m => evS F (gv G) (.asg t e) env m) := by
  simp only [evS]
  by_cases hs : swV S tg x = true
  · have hx : ∃ z gs sc vp, x = .ListComp z gs sc vp := by
      cases x <;> first | exact ⟨_, _, _, _, rfl⟩ | (simp [swV] at hs; done)
    obtain ⟨z, gs, sc, vp, rfl⟩ := hx
    have htg : ∃ y py, tg = .Name y py := by
      cases tg <;> first | exact ⟨_, _, rfl⟩ | (simp [swV] at hs; done)
    obtain ⟨y, py, rfl⟩ := htg
    cases t with
    | tp ts => simp [isTg] at h1
    | up ts => simp [isTg] at h1
    | nm i =>
      simp only [isTg, Bool.and_eq_true, decide_eq_true_eq] at h1
      cases e with
      | comp own t' it e =>
        obtain ⟨te, hp, hq⟩ := okLc C hX hk (.comp own t' it e) rfl h2 (py := py) (pos := pos) h1.1 hs
        exact ps_imp hp (setN_read hq fun env m d m' e => by simp only [evE] at e; exact rComp_lst e)
      | compIf own t' it c e =>
        obtain ⟨te, hp, hq⟩ := okLc C hX hk (.compIf own t' it c e) rfl h2 (py := py) (pos := pos) h1.1 hs
        exact ps_imp hp (setN_read hq fun env m d m' e => by simp only [evE] at e; exact rCompI_lst e)
      | box a =>
        simp only [isE, Bool.and_eq_true] at h2
        have ha : isCp a = true := isCp_of h2.1 h2.2
        obtain ⟨te, hp, hq⟩ := okLc C hX hk a ha h2.2 (py := py) (pos := pos) h1.1 hs
        refine ps_imp hp fun E σ H h => setB_read hq E σ H ?_
        simp only [evE] at h
        exact h
      | _ => exact absurd h2 (by simp [isE])
  · have hs : swV S tg x = false := by simpa using hs
    exact s_asg (okE e C hX x h2) (okTg hX t tg h1) (by rw [← hs]; exact sw_eq hX hk (is_pl h2) tg _) (stores_none h3 h1) (by rw [isTg_each h1]; rfl)
mutual
theorem okS {X : Cx} {S_ : Sx_} (C : Cok X n T F G) (hX : XOk X S_) (hk : S_.sc.kind = .function) (hp : PassesOwn (model X.prog X.w) X.A X.env X.xe) : ∀ (s : S) (st : Stmt), isS T G S_ s st = true → PS X st (tEvS X.K fun env m => evS F (gv G) s env m)
  | .asg t e, st, h => by
    simp only [isS] at h
    split at h
    · simp only [Bool.and_eq_true, Bool.not_eq_true'] at h
      exact okAsg C hX hk t e h.1.1 h.1.2 h.2
    · cases h
  | .setix o i e, st, h => by
    simp only [isS] at h
    split at h
    · simp only [Bool.and_eq_true] at h
      simp only [evS]
      refine s_setix (is_pl h.1.2) (okE e C hX _ h.2) (okE o C hX _ h.1.1) (okE i C hX _ h.1.2) ?_
      have hq := is_pl h.2
      simp only [swapsWithSole]
      rw [sw_eq hX hk hq]
      unfold swV
      split <;> rfl
    · cases h
  | .aug i op e, st, h => by
    simp only [isS] at h
    split at h
    · simp only [Bool.and_eq_true, decide_eq_true_eq] at h
      obtain ⟨h1, h2⟩ := locB_ok hX h.1.2
      simp only [evS]
      exact s_aug h.1.1.1 hX.nd (by rw [hX.n]; exact h.1.1.2) h1 h2 (okE e C hX _ h.2)
    · cases h
  | .ex e, st, h => by
    simp only [isS] at h
    split at h
    · simp only [Bool.and_eq_true, Bool.not_eq_true'] at h
      simp only [evS]
      exact s_ex (okE e C hX _ h.1) (sw_none (is_pl h.1) h.2 _)
    · cases h
  | .ife c a b, st, h => by
    simp only [isS] at h
    split at h
    · simp only [Bool.and_eq_true] at h
      simp only [evS]
      exact s_if (okT c C hX _ h.1.1) (okB C hX hk hp a _ h.1.2) (okB C hX hk hp b _ h.2)
    · cases h
  | .for_ t it b, st, h => by
    simp only [isS] at h
    split at h
    · simp only [Bool.and_eq_true] at h
      simp only [evS]
      have hI := okI it C hX _ _ h.1.2
      exact s_for hp hX.calm hI.1 (okTg hX t _ h.1.1) (okB C hX hk hp b _ h.2) hI.2
    · cases h
  | .while_ c b, st, h => by
    simp only [isS] at h
    split at h
    · simp only [Bool.and_eq_true] at h
      simp only [evS]
      exact s_while hp (okT c C hX _ h.1) (okB C hX hk hp b _ h.2)
    · cases h
  | .ret e, st, h => by
    simp only [isS] at h
    split at h
    · simp only [evS]
      exact s_ret (okE e C hX _ h)
    · cases h
  | .brk, st, h => by
    simp only [isS] at h
    split at h
    · simp only [evS]
      exact s_brk
    · cases h
  | .cont, st, h => by
    simp only [isS] at h
    split at h
    · simp only [evS]
      exact s_cont
    · cases h
theorem okB {X : Cx} {S_ : Sx_} (C : Cok X n T F G) (hX : XOk X S_) (hk : S_.sc.kind = .function) (hp : PassesOwn (model X.prog X.w) X.A X.env X.xe) : ∀ (s : Ss) (st : List Stmt), isB T G S_ s st = true → PSs X st (tEvS X.K fun env m => evB F (gv G) s env m)
  | .nil, st, h => by
    simp only [isB] at h
    split at h
    · simp only [evB]
      exact ss_nil
    · cases h
  | .cons s ss, st, h => by
    simp only [isB] at h
    split at h
    · simp only [Bool.and_eq_true] at h
      simp only [evB]
      exact ss_cons (okS C hX hk hp s _ h.1) (okB C hX hk hp ss _ h.2)
    · cases h
end
end

/-! ## defs -/
theorem start_rep {K : PySem.W.Frag} {Z : Addr → Prop} {ph : List Addr} {H : Hp} {vs : List V} {ds : List D} (N : List Str) (r : RepVs K Z ph H vs ds) : RepE K Z ph H (L2.start N vs) (startE N.length ds) := by
  unfold L2.start startE
  rw [r.len]
  refine ⟨by simp [r.len], fun i d h => ?_⟩
  by_cases hi : i < ds.length
  · rw [List.getElem?_append_left (by simpa using hi), List.getElem?_map] at h
    obtain ⟨d', h1, h2⟩ := Option.map_eq_some_iff.mp h
    cases h2
    obtain ⟨v, h3, r3⟩ := r.get h1
    exact ⟨v, by rw [List.getElem?_append_left (by rw [List.length_map, r.len]; exact hi), List.getElem?_map, h3]; rfl, r3⟩
  · rw [List.getElem?_append_right (by simpa using hi)] at h
    have := List.mem_of_getElem? h
    simp at this
/-- what is known of the defs, at a level -/
structure Lev (P : Program) (w : World) (K : PySem.W.Frag) (mg : Str → Option Value) (base : Heap) (n : Nat) (T : List FnD) (F : Fn) : Prop where
  fn : ∀ (i : Nat) (fd : FnD), T[i]? = some fd → ∃ f fdat, FnK P w K mg base n f fdat fd.ps (spF K fd.ps.length (F i)) ∧ Binds K fdat fd.ps [] ∧ PySem.W.keepIn K (.ref f) = true ∧ mg fd.nm = some (.ref f) ∧ (∀ ds m r, F i ds m = some r → ds.length = fd.ps.length)
structure Glo (K : PySem.W.Frag) (mg : Str → Option Value) (G : List (Str × D)) : Prop where
  bl : ∀ x ∈ bnames, mg x = none
  gl : ∀ (i : Nat) (x : Str) (d : D), G[i]? = some (x, d) → ∃ v u, mg x = some u ∧ RelV v u ∧ ∀ Z ph H, RepV K Z ph H v d
section
variable {P : Program} {w : World} {K : PySem.W.Frag} {mg : Str → Option Value} {base : Heap} {n : Nat} {T : List FnD} {F : Fn} {G : List (Str × D)}
theorem runBody_len {fd : FnD} {ds : List D} {m : M} {r : D × M} {G : List D} (h : runBody F G fd ds m = some r) : ds.length = fd.ps.length := by
  unfold runBody at h
  split at h
  · assumption
  · cases h
theorem fn_ok (L : Lev P w K mg base n T F) (Gk : Glo K mg G) {fd : FnD} {st : Stmt} {f : Addr} {fdat : FuncData} (Fu : Fun K fd.nm fd.nm st f fdat) (Sc : FnScope fd.ns fd.ps (defScope st)) (is : isB T G ⟨fd.ns, defScope st, fun _ => true⟩ fd.body (defBody st) = true) :
    FnK P w K mg base (n + 1) f fdat fd.ps (spF K fd.ps.length (runBody F (gv G) fd)) := by
  refine k_fn Fu Sc (fun vs H Q E h => h.1) (fun cdv A outer s H vs Q E hr h => ?_)
  refine ⟨_, okB (n := n) (F := F) ⟨L.fn, hr, Gk.bl, Gk.gl⟩ ⟨rfl, rfl, rfl, rfl, Sc.nd, hr.units⟩ Sc.kind PassesOwn.never fd.body (defBody st) is, ?_⟩
  obtain ⟨hl, Z, ph, m, ds, r, wd, d, m', e, q⟩ := h
  unfold runBody at e
  rw [if_pos (runBody_len (F := F) (G := gv G) (m := m) (r := (d, m')) e)] at e
  obtain ⟨⟨fl, env', m1⟩, h1, e⟩ := Option.bind_eq_some_iff.mp e
  refine ⟨Z, ph, startE fd.ns.length ds, m, start_rep fd.ns r, wd, fl, env', m1, h1, fun ph' H' σ' s w r => ?_⟩
  cases fl with
  | nx => cases e; exact q ph' H' .non s w .non
  | rt d => cases e; exact fun v rv => q ph' H' v s w rv
  | bk => cases e
  | ct => cases e
/-- the defs of the table, as they stand behind the top -/
structure Tab (K : PySem.W.Frag) (mg : Str → Option Value) (T : List FnD) (G : List (Str × D)) : Prop where
  fn : ∀ (i : Nat) (fd : FnD), T[i]? = some fd → ∃ f fdat st, Fun K fd.nm fd.nm st f fdat ∧ FnScope fd.ns fd.ps (defScope st) ∧ isB T G ⟨fd.ns, defScope st, fun _ => true⟩ fd.body (defBody st) = true ∧ (∀ us : List Value, us.length = fd.ps.length → bindArgs fdat ⟨us, []⟩ = pure (fd.ps.zip us)) ∧ mg fd.nm = some (.ref f)
theorem run_len {T : List FnD} {G : List D} : ∀ {n i : Nat} {fd : FnD} {ds : List D} {m : M} {r : D × M}, T[i]? = some fd → run T G n i ds m = some r → ds.length = fd.ps.length
  | 0, _, _, _, _, _, _, h => by simp [run] at h
  | n + 1, i, fd, ds, m, r, hi, h => by
    simp only [run, hi] at h
    exact runBody_len h
theorem lev (Tb : Tab K mg T G) (Gk : Glo K mg G) : ∀ n, Lev P w K mg base n T (run T (gv G) n)
  | 0 => ⟨fun i fd h => by
      obtain ⟨f, fdat, st, Fu, Sc, is, bi, mgf⟩ := Tb.fn i fd h
      refine ⟨f, fdat, ⟨fun vs H Q E h => h.1, fun A outer s H args us vs Q E _ _ _ _ h => ?_⟩, .all bi, Fu.kp, mgf, fun ds m r h' => run_len h h'⟩
      obtain ⟨_, Z, ph, m, ds, _, _, d, m', e, _⟩ := h
      simp [run] at e⟩
  | n + 1 => ⟨fun i fd h => by
      obtain ⟨f, fdat, st, Fu, Sc, is, bi, mgf⟩ := Tb.fn i fd h
      have e : run T (gv G) (n + 1) i = runBody (run T (gv G) n) (gv G) fd := by funext ds m; simp only [run, h]
      rw [e]
      exact ⟨f, fdat, fn_ok (lev Tb Gk n) Gk Fu Sc is, .all bi, Fu.kp, mgf, fun ds m r h' => runBody_len h'⟩⟩
end
/-- what law(script) promises -/
def spLaw (K : PySem.W.Frag) : Sp := fun vs H Q _ => ∃ (a : Addr) (ns : List Int), vs = [.ref a] ∧ SqL K H a (ns.map V.int) ∧ Only H ∧ ns.length ≤ 63 ∧ ∀ H', Q (.bl true) H'
theorem law_sp {K : PySem.W.Frag} {f : List D → M → Option (D × M)} (h : ∀ ns : List Int, ns.length ≤ 63 → ∃ m', f [.frz (ns.map .int)] [] = some (.bl true, m')) (vs : List V) (H : Hp) (Q : VK) (E : XK) (q : spLaw K vs H Q E) : spF K 1 f vs H Q E := by
  obtain ⟨a, ns, rfl, hs, ho, hl, q⟩ := q
  obtain ⟨m', e⟩ := h ns hl
  have hf : FrzL K H a (ns.map V.int) := by
    rcases hs with (hs | ⟨o, hs⟩) | hs
    · rcases ho a with h | ⟨o, xs, h⟩
      · rw [hs] at h; cases h
      · rw [hs] at h; cases h
    · exact .inl ⟨o, hs⟩
    · exact .inr hs
  have r : RepVs K (fun _ => False) [] H (ns.map V.int) (ns.map D.int) := by
    clear hs hl e q hf
    induction ns with
    | nil => exact .nil
    | cons n ns ih => exact .cons (.int n) ih
  exact ⟨rfl, fun _ => False, [], [], [.frz (ns.map .int)], .cons (.frz hf r) .nil, ⟨rfl, List.nodup_nil, fun l xs h => by simp at h, fun _ h => h.elim⟩, .bl true, m', e, fun ph' H' u s w r => by cases r; exact q H'⟩
/-- the text's defs by places, checked at once -/
def scB (fd : FnD) (st : Stmt) : Bool := decide ((defScope st).kind = .function) && !(defScope st).isCoroutine && !(defScope st).isGenerator && decide fd.ns.Nodup && decide (fd.ns.take fd.ps.length = fd.ps) &&
  fd.ps.all (fun x => decide ((defScope st).names.lookup x = some .local) || decide ((defScope st).names.lookup x = some .cell)) && (defScope st).names.all fun y => decide (y.2 ≠ .free)
theorem scB_ok {fd : FnD} {st : Stmt} (h : scB fd st = true) : FnScope fd.ns fd.ps (defScope st) := by
  simp only [scB, Bool.and_eq_true, decide_eq_true_eq, Bool.not_eq_true', List.all_eq_true, Bool.or_eq_true] at h
  obtain ⟨⟨⟨⟨⟨⟨h1, h2⟩, h3⟩, h4⟩, h5⟩, h6⟩, h7⟩ := h
  exact ⟨h1, h2, h3, h4, h5, fun x hx => h6 x hx, fun y hy => h7 y hy⟩
def defIn (K : PySem.W.Frag) (nm : Str) (st : Stmt) : Prop := ∃ (f : Addr) (od an : Option Addr) (sl : Array (Option Value)) (oc kV dc pm cd ct : Value), PySem.W.nsIn K mainGlobals nm = some (some (.ref f)) ∧
  K.lookup f = some ⟨oc, od, .func (PySem.W.fnOf nm nm (defArgs st) (defBody st) (defScope st) .none kV dc pm an cd ct), sl⟩ ∧ PySem.W.codeIn K cd nm = true ∧ PySem.W.keepIn K (.ref f) = true
theorem defIn_mk {K : PySem.W.Frag} {nm : Str} {st : Stmt} {f : Addr} {od an : Option Addr} {sl : Array (Option Value)} {oc kV dc pm cd ct : Value} (a : PySem.W.nsIn K mainGlobals nm = some (some (.ref f)))
    (l : K.lookup f = some ⟨oc, od, .func (PySem.W.fnOf nm nm (defArgs st) (defBody st) (defScope st) .none kV dc pm an cd ct), sl⟩) (c : PySem.W.codeIn K cd nm = true) (k : PySem.W.keepIn K (.ref f) = true) : defIn K nm st := ⟨f, od, an, sl, oc, kV, dc, pm, cd, ct, a, l, c, k⟩
def plainArgs (fd : FnD) (st : Stmt) : Prop := ∀ (kV doc pm : Value) (an : Option Addr) (cdv ct : Value) (us : List Value), us.length = fd.ps.length → bindArgs (PySem.W.fnOf fd.nm fd.nm (defArgs st) (defBody st) (defScope st) .none kV doc pm an cdv ct) ⟨us, []⟩ = pure (fd.ps.zip us)
theorem tab_of {K : PySem.W.Frag} {mg : Str → Option Value} {T : List FnD} {G : List (Str × D)} {h : Heap} (X : K.In h) (Gn : h.Ns mainGlobals mg)
    (H : ∀ (i : Nat) (fd : FnD), T[i]? = some fd → ∃ st, defIn K fd.nm st ∧ plainArgs fd st ∧ scB fd st = true ∧ isB T G ⟨fd.ns, defScope st, fun _ => true⟩ fd.body (defBody st) = true) : Tab K mg T G := ⟨fun i fd e => by
  obtain ⟨st, ⟨f, od, an, sl, oc, kV, dc, pm, cd, ct, a1, l1, c1, k1⟩, pa, sc, is⟩ := H i fd e
  exact ⟨f, _, st, fun_mk l1 c1 k1, scB_ok sc, is, fun us hl => pa _ _ _ _ _ _ us hl, PySem.W.mg_of X Gn a1⟩⟩
/-- the law's end: the pure statement is left -/
theorem law_walk {l : PySem.W.OpenLaw} {q : Program} {loose : List Str} {XP : (Str → Option Value) → Heap → Prop} {YP : World → Heap → Prop} {d : DefRec} {K : Params → PySem.W.Frag} {T : List FnD} {G : List (Str × D)} {N li : Nat} {fd : FnD} {x : Str}
    (hn : l.most = some 63) (hdf : d.params.defaults = []) (hr : Room (N / 3 + 1) callerA) (hli : T[li]? = some fd) (hps : fd.ps = [x]) (hnm : d.name = fd.nm)
    (hY : ∀ (w : World) (h : Heap), YP w h → (K w.params).In h)
    (tab : ∀ (w : World) (mg : Str → Option Value) (h : Heap), (K w.params).In h → h.Ns mainGlobals mg → Tab (K w.params) mg T G ∧ Glo (K w.params) mg G)
    (hrun : ∀ ns : List Int, ns.length ≤ 63 → ∃ m', run T (gv G) (N + 1) li [.frz (ns.map .int)] [] = some (.bl true, m')) :
    PySem.W.WalkO q loose XP YP l.row.toRowW d [] (fun f vs => PySem.call f vs) :=
  L2.walk_of (n := 63) (k := N / 3 + 1) (x := x) (CX := fun _ => CX0) (sp := fun w => spLaw (K w.params)) hn (by decide) hdf hr hY (fun w mg fa h X Gn hfa => by
    obtain ⟨Tb, Gk⟩ := tab w mg h X Gn
    obtain ⟨f, fdat, st, Fu, Sc, is, bi, mgf⟩ := Tb.fn li fd hli
    rw [hnm, mgf] at hfa
    cases hfa
    refine ⟨fdat, fun s u => .of_eq (by rw [bi [u] (by rw [hps]; rfl), hps]; rfl), fun base _ _ => ?_⟩
    have k1 := fn_ok (P := l.prog) (w := w) (base := base) (lev Tb Gk N) Gk Fu Sc is
    rw [← hps]
    refine (k1.ok (k := N / 3 + 1) (by omega)).imp fun vs H Q E q => ?_
    have e : fd.ps.length = 1 := by rw [hps]; rfl
    rw [e]
    refine law_sp (fun ns hl => ?_) vs H Q E q
    obtain ⟨m', hm⟩ := hrun ns hl
    simp only [run, hli] at hm
    exact ⟨m', hm⟩) (fun _ _ a ns hl ho hS => ⟨a, ns, rfl, hS, ho, hl, fun _ => rfl⟩) fun _ _ _ _ _ z => z
end Pv

namespace Pv
open PySem
/-! ## the evaluator by rows that simp can follow from the left: what comes next is always data -/
section
variable (F : Fn) (G : List D)
abbrev O1 := Option (D × M)
def rt1 (o : Option D) (m : M) : O1 := o.map fun d => (d, m)
def rtB (o : Option Bool) (m : M) : O1 := o.map fun d => (.bl d, m)
def kVar (o : Option (Option D)) (m : M) : O1 := match o with
  | some (some d) => some (d, m)
  | _ => none
def kBin2 (op : BOp) (x : D) (r : O1) : O1 := r.bind fun q => rt1 (bopD q.2 op x q.1) q.2
def kBin1 (op : BOp) (b : E) (env : Env) (r : O1) : O1 := r.bind fun p => kBin2 op p.1 (evE F G b env p.2)
def kCmp2 (op : COp) (x : D) (r : O1) : O1 := r.bind fun q => rtB (cmpD q.2 op x q.1) q.2
def kCmp1 (op : COp) (b : E) (env : Env) (r : O1) : O1 := r.bind fun p => kCmp2 op p.1 (evE F G b env p.2)
def kNeg (r : O1) : O1 := r.bind fun p => match p.1 with
  | .int i => some (.int (-i), p.2)
  | _ => none
def kIsN (r : O1) : O1 := r.map fun p => (.bl (decide (p.1 = .non)), p.2)
def kNotN (r : O1) : O1 := r.map fun p => (.bl (!decide (p.1 = .non)), p.2)
def kAnd (b : E) (env : Env) (r : O1) : O1 := r.bind fun p => match p.1 with
  | .bl true => evE F G b env p.2
  | .bl false => some (.bl false, p.2)
  | _ => none
def kOr (b : E) (env : Env) (r : O1) : O1 := r.bind fun p => match p.1 with
  | .bl true => some (.bl true, p.2)
  | .bl false => evE F G b env p.2
  | _ => none
def kNot (r : O1) : O1 := r.bind fun p => match p.1 with
  | .bl k => some (.bl (!k), p.2)
  | _ => none
def kIfE (a b : E) (env : Env) (r : O1) : O1 := r.bind fun p => match p.1 with
  | .bl true => evE F G a env p.2
  | .bl false => evE F G b env p.2
  | _ => none
def kChain3 (p : COp) (y : D) (r : O1) : O1 := r.bind fun z => rtB (cmpD z.2 p y z.1) z.2
def kChainB (p : COp) (c : E) (env : Env) (y : D) (m : M) (o : Option Bool) : O1 := o.bind fun k => if k then kChain3 p y (evE F G c env m) else some (.bl false, m)
def kChain2 (o p : COp) (c : E) (env : Env) (x : D) (r : O1) : O1 := r.bind fun y => kChainB F G p c env y.1 y.2 (cmpD y.2 o x y.1)
def kChain1 (o p : COp) (b c : E) (env : Env) (r : O1) : O1 := r.bind fun x => kChain2 F G o p c env x.1 (evE F G b env x.2)
abbrev OA := Option (List D × M)
def kCons2 (x : D) (r : OA) : OA := r.bind fun q => some (x :: q.1, q.2)
def kCons1 (es : Es) (env : Env) (r : O1) : OA := r.bind fun p => kCons2 p.1 (evA F G es env p.2)
def kCall (f : Nat) (r : OA) : O1 := r.bind fun p => F f p.1 p.2
def kPure (m : M) (r : O1) : O1 := r.bind fun q => if q.2.take m.length = m ∧ pure_ q.1 = true then some (q.1, m) else none
def kCallP (f : Nat) (r : OA) : O1 := r.bind fun p => kPure p.2 (F f p.1 p.2)
def kBi (b : BI) (r : OA) : O1 := r.bind fun p => rt1 (biD p.2 b p.1) p.2
def kIsi (t : Ty) (r : O1) : O1 := r.bind fun p => rtB (isiD p.1 t) p.2
def kListRg (r : O1) : O1 := r.bind fun p => match p.1 with
  | .int n => if rgOk n && decide (n.toNat ≤ lim) then some (.lst (rangeD 0 n.toNat), p.2) else none
  | _ => none
def kIx2 (x : D) (r : O1) : O1 := r.bind fun q => rt1 (ixD q.2 x q.1) q.2
def kIx1 (b : E) (env : Env) (r : O1) : O1 := r.bind fun p => kIx2 p.1 (evE F G b env p.2)
def kSl3 (x : D) (lo : Option Int) (r : Option (Option Int × M)) : O1 := r.bind fun h => rt1 (slD h.2 x lo h.1) h.2
def kSl2 (x : D) (hi : E) (env : Env) (r : Option (Option Int × M)) : O1 := r.bind fun l => kSl3 x l.1 (partO (fun env m => evE F G hi env m) (isNop hi) env l.2)
def kSl1 (lo hi : E) (env : Env) (r : O1) : O1 := r.bind fun p => kSl2 F G p.1 hi env (partO (fun env m => evE F G lo env m) (isNop lo) env p.2)
def kTup (r : OA) : O1 := r.bind fun p => if p.1.length ≤ lim then some (.tup p.1, p.2) else none
def kLst (r : OA) : O1 := r.bind fun p => if p.1.length ≤ lim then some (.lst p.1, p.2) else none
def kLc (r : OA) : O1 := r.map fun q => (.lst q.1, q.2)
def kComp (own : List (Str × Nat)) (t : Tg) (e : E) (env : Env) (r : OA) : O1 := r.bind fun p => if p.1.length ≤ lim then kLc (compL t (wipeE env (own.map (·.2))) (fun env m => evE F G e env m) p.1 p.2) else none
def kCompI (own : List (Str × Nat)) (t : Tg) (c e : E) (env : Env) (r : OA) : O1 := r.bind fun p => if p.1.length ≤ lim then kLc (compLI t (wipeE env (own.map (·.2))) (fun env m => evE F G c env m) (fun env m => evE F G e env m) p.1 p.2) else none
def kBox (r : O1) : O1 := r.bind fun p => match p.1 with
  | .lst xs => some (.ref p.2.length, p.2 ++ [.lst xs])
  | _ => none
def popM (m : M) : D → O1
  | .ref l => match m[l]? with
    | some (.lst xs) => match xs[xs.length - 1]? with
      | some y => some (y, m.set l (.lst xs.dropLast))
      | none => none
    | none => none
  | _ => none
def kPop (r : O1) : O1 := r.bind fun p => popM p.2 p.1
def popAtM (m : M) : D → D → O1
  | .ref l, .int i => match m[l]? with
    | some (.lst xs) => match ixAt xs.length i with
      | some k => match xs[k]? with
        | some y => if decide (-(2 ^ 63) ≤ i) && decide (i < 2 ^ 63) then some (y, m.set l (.lst (xs.eraseIdx k))) else none
        | none => none
      | none => none
    | none => none
  | _, _ => none
def kPopAt2 (x : D) (r : O1) : O1 := r.bind fun q => popAtM q.2 x q.1
def kPopAt1 (b : E) (env : Env) (r : O1) : O1 := r.bind fun p => kPopAt2 p.1 (evE F G b env p.2)
def appendM (m : M) (y : D) : D → O1
  | .ref l => match m[l]? with
    | some (.lst xs) => if xs.length < lim then some (.non, m.set l (.lst (xs ++ [y]))) else none
    | none => none
  | _ => none
def kAppend2 (x : D) (r : O1) : O1 := r.bind fun q => appendM q.2 q.1 x
def kAppend1 (b : E) (env : Env) (r : O1) : O1 := r.bind fun p => kAppend2 p.1 (evE F G b env p.2)
def seqI : D → Option (List D)
  | .tup xs => some xs
  | .lst xs => some xs
  | _ => none
def rtL (o : Option (List D)) (m : M) : OA := o.map fun d => (d, m)
def kSeq (r : O1) : OA := r.bind fun p => rtL (seqI p.1) p.2
def rng1I : D → Option (List D)
  | .int n => if rgOk n then some (rangeD 0 n.toNat) else none
  | _ => none
def kRng1 (r : O1) : OA := r.bind fun p => rtL (rng1I p.1) p.2
def rng2I : D → D → Option (List D)
  | .int i, .int j => if rgOk i && rgOk j then some (rangeD i (j - i).toNat) else none
  | _, _ => none
def kRng22 (x : D) (r : O1) : OA := r.bind fun q => rtL (rng2I x q.1) q.2
def kRng21 (b : E) (env : Env) (r : O1) : OA := r.bind fun p => kRng22 p.1 (evE F G b env p.2)
def kZip2 (x : D) (r : O1) : OA := r.bind fun q => rtL (zipD x q.1) q.2
def kZip1 (b : E) (env : Env) (r : O1) : OA := r.bind fun p => kZip2 p.1 (evE F G b env p.2)
-- statements
def rtE (o : Option Env) (m : M) : R := o.map fun e => (.nx, e, m)
def kAsg (t : Tg) (env : Env) (r : O1) : R := r.bind fun p => rtE (bindTg p.2 t p.1 env) p.2
def setM (env : Env) (m : M) (v : D) : D → D → R
  | .ref l, .int k => match m[l]? with
    | some (.lst xs) => match ixAt xs.length k with
      | some j => some (.nx, env, m.set l (.lst (xs.set j v)))
      | none => none
    | none => none
  | _, _ => none
def kSet3 (env : Env) (v o : D) (r : O1) : R := r.bind fun r => setM env r.2 v o r.1
def kSet2 (i : E) (env : Env) (v : D) (r : O1) : R := r.bind fun q => kSet3 env v q.1 (evE F G i env q.2)
def kSet1 (o i : E) (env : Env) (r : O1) : R := r.bind fun p => kSet2 F G i env p.1 (evE F G o env p.2)
def augR (i : Nat) (op : BOp) (env : Env) (m : M) : Option (Option D) → D → R
  | some (some (.int a)), .int b => match op with
    | .add => some (.nx, env.set i (some (.int (a + b))), m)
    | .sub => some (.nx, env.set i (some (.int (a - b))), m)
    | _ => none
  | _, _ => none
def kAug (i : Nat) (op : BOp) (env : Env) (r : O1) : R := r.bind fun p => augR i op env p.2 env[i]? p.1
def kEx (env : Env) (r : O1) : R := r.map fun p => (.nx, env, p.2)
def kIfS (a b : Ss) (env : Env) (r : O1) : R := r.bind fun p => match p.1 with
  | .bl true => evB F G a env p.2
  | .bl false => evB F G b env p.2
  | _ => none
def kFor (t : Tg) (b : Ss) (env : Env) (r : OA) : R := r.bind fun p => forL t (fun env m => evB F G b env m) p.1 env p.2
def kRet (env : Env) (r : O1) : R := r.map fun p => (.rt p.1, env, p.2)
def kSS (ss : Ss) (r : R) : R := r.bind fun r => match r.1 with
  | .nx => evB F G ss r.2.1 r.2.2
  | _ => some r
def kFn (r : R) : O1 := r.bind fun r => match r.1 with
  | .rt d => some (d, r.2.2)
  | .nx => some (.non, r.2.2)
  | _ => none
end
section
variable {F : Fn} {G : List D} {env e' : Env} {m : M} {x y d : D} {a b c o : E} {es : Es} {as : Es} {xs : List D} {op p : BOp} {co cp : COp} {i k : Nat} {bb : Bool} {s : S} {ss : Ss} {t : Tg} {it : It} {v : Option D}
theorem x_var : evE F G (.var i) env m = kVar env[i]? m := by rw [evE]; rfl
theorem y_var : kVar (some (some d)) m = some (d, m) := rfl
theorem x_con : evE F G (.con d) env m = some (d, m) := by rw [evE]
theorem x_glob : evE F G (.glob i) env m = rt1 G[i]? m := by rw [evE]; rfl
theorem x_bin : evE F G (.bin op a b) env m = kBin1 F G op b env (evE F G a env m) := by rw [evE]; rfl
theorem x_neg : evE F G (.neg a) env m = kNeg (evE F G a env m) := by rw [evE]; rfl
theorem x_cmp : evE F G (.cmp co a b) env m = kCmp1 F G co b env (evE F G a env m) := by rw [evE]; rfl
theorem x_chain : evE F G (.chain co cp a b c) env m = kChain1 F G co cp b c env (evE F G a env m) := by rw [evE]; rfl
theorem x_isN : evE F G (.isN a) env m = kIsN (evE F G a env m) := by rw [evE]; rfl
theorem x_notN : evE F G (.notN a) env m = kNotN (evE F G a env m) := by rw [evE]; rfl
theorem x_and : evE F G (.and_ a b) env m = kAnd F G b env (evE F G a env m) := by rw [evE]; rfl
theorem x_and1 : evE F G (.and1 a) env m = evE F G a env m := by rw [evE]
theorem x_or : evE F G (.or_ a b) env m = kOr F G b env (evE F G a env m) := by rw [evE]; rfl
theorem x_or1 : evE F G (.or1 a) env m = evE F G a env m := by rw [evE]
theorem x_not : evE F G (.not_ a) env m = kNot (evE F G a env m) := by rw [evE]; rfl
theorem x_ife : evE F G (.ife c a b) env m = kIfE F G a b env (evE F G c env m) := by rw [evE]; rfl
theorem x_call : evE F G (.call i as) env m = kCall F i (evA F G as env m) := by rw [evE]; rfl
theorem x_callP : evE F G (.callP i as) env m = kCallP F i (evA F G as env m) := by rw [evE]; rfl
theorem x_bi {q : BI} : evE F G (.bi q as) env m = kBi q (evA F G as env m) := by rw [evE]; rfl
theorem x_isi {q : Ty} : evE F G (.isi a q) env m = kIsi q (evE F G a env m) := by rw [evE]; rfl
theorem x_listRg : evE F G (.listRg a) env m = kListRg (evE F G a env m) := by rw [evE]; rfl
theorem x_ix : evE F G (.ix a b) env m = kIx1 F G b env (evE F G a env m) := by rw [evE]; rfl
theorem x_sl : evE F G (.sl a b c) env m = kSl1 F G b c env (evE F G a env m) := by rw [evE]; rfl
theorem x_tup : evE F G (.tup as) env m = kTup (evA F G as env m) := by rw [evE]; rfl
theorem x_lst : evE F G (.lst as) env m = kLst (evA F G as env m) := by rw [evE]; rfl
theorem x_comp {own : List (Str × Nat)} : evE F G (.comp own t it a) env m = kComp F G own t a env (evI F G it env m) := by rw [evE]; rfl
theorem x_compIf {own : List (Str × Nat)} : evE F G (.compIf own t it c a) env m = kCompI F G own t c a env (evI F G it env m) := by rw [evE]; rfl
theorem x_box : evE F G (.box a) env m = kBox (evE F G a env m) := by rw [evE]; rfl
theorem x_pop : evE F G (.pop a) env m = kPop (evE F G a env m) := by
  rw [evE]
  unfold kPop popM
  congr 1
theorem x_popAt : evE F G (.popAt a b) env m = kPopAt1 F G b env (evE F G a env m) := by
  rw [evE]
  unfold kPopAt1 kPopAt2 popAtM
  congr 1
theorem x_append : evE F G (.append a b) env m = kAppend1 F G b env (evE F G a env m) := by
  rw [evE]
  unfold kAppend1 kAppend2 appendM
  congr 1
theorem x_nil : evA F G .nil env m = some ([], m) := by rw [evA]
theorem x_cons : evA F G (.cons a as) env m = kCons1 F G as env (evE F G a env m) := by rw [evA]; rfl
theorem x_seq : evI F G (.seq a) env m = kSeq (evE F G a env m) := by
  rw [evI]
  unfold kSeq
  congr 1
  funext p
  unfold seqI rtL
  cases p.1 <;> rfl
theorem x_rng1 : evI F G (.rng1 a) env m = kRng1 (evE F G a env m) := by
  rw [evI]
  unfold kRng1
  congr 1
  funext p
  unfold rng1I rtL
  cases p.1 <;> first | rfl | skip
  simp only
  split <;> rfl
theorem x_rng2 : evI F G (.rng2 a b) env m = kRng21 F G b env (evE F G a env m) := by
  rw [evI]
  unfold kRng21 kRng22
  congr 1
  funext p
  congr 1
  funext q
  unfold rng2I rtL
  cases p.1 <;> cases q.1 <;> first | rfl | skip
  simp only
  split <;> rfl
theorem x_zip : evI F G (.zip a b) env m = kZip1 F G b env (evE F G a env m) := by rw [evI]; rfl
theorem x_asg : evS F G (.asg t a) env m = kAsg t env (evE F G a env m) := by rw [evS]; rfl
theorem x_setix : evS F G (.setix o b a) env m = kSet1 F G o b env (evE F G a env m) := by
  rw [evS]
  unfold kSet1 kSet2 kSet3 setM
  congr 1
theorem x_aug : evS F G (.aug i op a) env m = kAug i op env (evE F G a env m) := by
  rw [evS]
  unfold kAug augR
  cases h : env[i]? with
  | none => simp only; cases evE F G a env m <;> rfl
  | some v =>
    cases v with
    | none => simp only; cases evE F G a env m <;> rfl
    | some d =>
      cases d <;> simp only <;> first | (cases evE F G a env m <;> rfl) | skip
      congr 1
      funext p
      cases p.1 <;> rfl
theorem x_ex : evS F G (.ex a) env m = kEx env (evE F G a env m) := by rw [evS]; rfl
theorem x_if {sa sb : Ss} : evS F G (.ife a sa sb) env m = kIfS F G sa sb env (evE F G a env m) := by rw [evS]; rfl
theorem x_for : evS F G (.for_ t it ss) env m = kFor F G t ss env (evI F G it env m) := by rw [evS]; rfl
theorem x_while : evS F G (.while_ a ss) env m = whileL (evE F G a) (evB F G ss) turns env m := by rw [evS]
theorem x_ret : evS F G (.ret a) env m = kRet env (evE F G a env m) := by rw [evS]; rfl
theorem x_brk : evS F G .brk env m = some (.bk, env, m) := by rw [evS]
theorem x_cont : evS F G .cont env m = some (.ct, env, m) := by rw [evS]
theorem x_bnil : evB F G .nil env m = some (.nx, env, m) := by rw [evB]
theorem x_bcons : evB F G (.cons s ss) env m = kSS F G ss (evS F G s env m) := by rw [evB]; rfl
theorem x_fn {fd : FnD} {ds : List D} (h : ds.length = fd.ps.length) : runBody F G fd ds m = kFn (evB F G fd.body (startE fd.ns.length ds) m) := by
  unfold runBody
  rw [if_pos h]
  rfl
-- going on
theorem y_rt1 : rt1 (some d) m = some (d, m) := rfl
theorem y_rtB : rtB (some bb) m = some (.bl bb, m) := rfl
theorem y_bin1 : kBin1 F G op b env (some (x, m)) = kBin2 op x (evE F G b env m) := rfl
theorem y_bin2 : kBin2 op x (some (y, m)) = rt1 (bopD m op x y) m := rfl
theorem y_cmp1 : kCmp1 F G co b env (some (x, m)) = kCmp2 co x (evE F G b env m) := rfl
theorem y_cmp2 : kCmp2 co x (some (y, m)) = rtB (cmpD m co x y) m := rfl
theorem y_neg {n : Int} : kNeg (some (.int n, m)) = some (.int (-n), m) := rfl
theorem y_isN : kIsN (some (x, m)) = some (.bl (decide (x = .non)), m) := rfl
theorem y_notN : kNotN (some (x, m)) = some (.bl (!decide (x = .non)), m) := rfl
theorem y_andT : kAnd F G b env (some (.bl true, m)) = evE F G b env m := rfl
theorem y_andF : kAnd F G b env (some (.bl false, m)) = some (.bl false, m) := rfl
theorem y_orT : kOr F G b env (some (.bl true, m)) = some (.bl true, m) := rfl
theorem y_orF : kOr F G b env (some (.bl false, m)) = evE F G b env m := rfl
theorem y_not : kNot (some (.bl bb, m)) = some (.bl (!bb), m) := rfl
theorem y_ifT : kIfE F G a b env (some (.bl true, m)) = evE F G a env m := rfl
theorem y_ifF : kIfE F G a b env (some (.bl false, m)) = evE F G b env m := rfl
theorem y_chain1 : kChain1 F G co cp b c env (some (x, m)) = kChain2 F G co cp c env x (evE F G b env m) := rfl
theorem y_chain2 : kChain2 F G co cp c env x (some (y, m)) = kChainB F G cp c env y m (cmpD m co x y) := rfl
theorem y_chainT : kChainB F G cp c env y m (some true) = kChain3 cp y (evE F G c env m) := rfl
theorem y_chainF : kChainB F G cp c env y m (some false) = some (.bl false, m) := rfl
theorem y_chain3 : kChain3 cp x (some (y, m)) = rtB (cmpD m cp x y) m := rfl
theorem y_cons1 : kCons1 F G as env (some (x, m)) = kCons2 x (evA F G as env m) := rfl
theorem y_cons2 : kCons2 x (some (xs, m)) = some (x :: xs, m) := rfl
theorem y_call : kCall F i (some (xs, m)) = F i xs m := rfl
theorem y_callP : kCallP F i (some (xs, m)) = kPure m (F i xs m) := rfl
theorem y_pure (h : pure_ x = true) : kPure m (some (x, m)) = some (x, m) := by
  unfold kPure
  rw [Option.bind_some, if_pos ⟨List.take_length, h⟩]
theorem y_pureG {g : M} (h : pure_ x = true) : kPure m (some (x, m ++ g)) = some (x, m) := by
  unfold kPure
  rw [Option.bind_some, if_pos ⟨by simp, h⟩]
theorem y_bi {q : BI} : kBi q (some (xs, m)) = rt1 (biD m q xs) m := rfl
theorem y_isi {q : Ty} : kIsi q (some (x, m)) = rtB (isiD x q) m := rfl
theorem y_listRg {n : Int} (h : rgOk n = true) (h' : n.toNat ≤ lim) : kListRg (some (.int n, m)) = some (.lst (rangeD 0 n.toNat), m) := by
  unfold kListRg
  simp only [Option.bind_some, h, decide_eq_true h', Bool.and_self, if_true]
theorem y_ix1 : kIx1 F G b env (some (x, m)) = kIx2 x (evE F G b env m) := rfl
theorem y_ix2 : kIx2 x (some (y, m)) = rt1 (ixD m x y) m := rfl
theorem lim10 {n : Nat} (h : n ≤ 100000) : n ≤ lim := Nat.le_trans h (by decide)
theorem y_tup (h : xs.length ≤ lim) : kTup (some (xs, m)) = some (.tup xs, m) := by
  unfold kTup; rw [Option.bind_some, if_pos h]
theorem y_tup0 : kTup (some ([], m)) = some (.tup [], m) := y_tup (lim10 (by simp))
theorem y_tup1 : kTup (some ([x], m)) = some (.tup [x], m) := y_tup (lim10 (by simp))
theorem y_tup2 : kTup (some ([x, y], m)) = some (.tup [x, y], m) := y_tup (lim10 (by simp))
theorem y_tup3 : kTup (some ([x, y, d], m)) = some (.tup [x, y, d], m) := y_tup (lim10 (by simp))
theorem y_tup4 {z : D} : kTup (some ([x, y, d, z], m)) = some (.tup [x, y, d, z], m) := y_tup (lim10 (by simp))
theorem y_lst (h : xs.length ≤ lim) : kLst (some (xs, m)) = some (.lst xs, m) := by
  unfold kLst; rw [Option.bind_some, if_pos h]
theorem y_lst0 : kLst (some ([], m)) = some (.lst [], m) := y_lst (lim10 (by simp))
theorem y_lst1 : kLst (some ([x], m)) = some (.lst [x], m) := y_lst (lim10 (by simp))
theorem y_lst2 : kLst (some ([x, y], m)) = some (.lst [x, y], m) := y_lst (lim10 (by simp))
theorem y_lst3 : kLst (some ([x, y, d], m)) = some (.lst [x, y, d], m) := y_lst (lim10 (by simp))
theorem y_lst4 {z : D} : kLst (some ([x, y, d, z], m)) = some (.lst [x, y, d, z], m) := y_lst (lim10 (by simp))
theorem y_lst5 {z z1 : D} : kLst (some ([x, y, d, z, z1], m)) = some (.lst [x, y, d, z, z1], m) := y_lst (lim10 (by simp))
theorem y_lst6 {z z1 z2 : D} : kLst (some ([x, y, d, z, z1, z2], m)) = some (.lst [x, y, d, z, z1, z2], m) := y_lst (lim10 (by simp))
theorem y_lst7 {z z1 z2 z3 : D} : kLst (some ([x, y, d, z, z1, z2, z3], m)) = some (.lst [x, y, d, z, z1, z2, z3], m) := y_lst (lim10 (by simp))
theorem y_tup5 {z z1 : D} : kTup (some ([x, y, d, z, z1], m)) = some (.tup [x, y, d, z, z1], m) := y_tup (lim10 (by simp))
theorem y_tup6 {z z1 z2 : D} : kTup (some ([x, y, d, z, z1, z2], m)) = some (.tup [x, y, d, z, z1, z2], m) := y_tup (lim10 (by simp))
def ownN (own : List (Str × Nat)) : List Nat := own.map (·.2)
theorem w_0 : wipeE env (ownN []) = env := rfl
theorem w_1 {z : Str} {own : List (Str × Nat)} : wipeE env (ownN ((z, i) :: own)) = (wipeE env (ownN own)).set i none := rfl
theorem y_comp {own : List (Str × Nat)} (h : xs.length ≤ lim) : kComp F G own t a env (some (xs, m)) = kLc (compL t (wipeE env (ownN own)) (evE F G a) xs m) := by
  unfold kComp ownN; rw [Option.bind_some, if_pos h]
theorem y_compI {own : List (Str × Nat)} (h : xs.length ≤ lim) : kCompI F G own t c a env (some (xs, m)) = kLc (compLI t (wipeE env (ownN own)) (evE F G c) (evE F G a) xs m) := by
  unfold kCompI ownN; rw [Option.bind_some, if_pos h]
theorem y_lc : kLc (some (xs, m)) = some (.lst xs, m) := rfl
theorem y_box : kBox (some (.lst xs, m)) = some (.ref m.length, m ++ [.lst xs]) := rfl
theorem y_pop : kPop (some (x, m)) = popM m x := rfl
theorem y_popAt1 : kPopAt1 F G b env (some (x, m)) = kPopAt2 x (evE F G b env m) := rfl
theorem y_popAt2 : kPopAt2 x (some (y, m)) = popAtM m x y := rfl
theorem y_append1 : kAppend1 F G b env (some (x, m)) = kAppend2 x (evE F G b env m) := rfl
theorem y_append2 : kAppend2 x (some (y, m)) = appendM m y x := rfl
theorem y_rtL : rtL (some xs) m = some (xs, m) := rfl
theorem y_seq : kSeq (some (x, m)) = rtL (seqI x) m := rfl
theorem y_seqT : seqI (.tup xs) = some xs := rfl
theorem y_seqL : seqI (.lst xs) = some xs := rfl
theorem y_rng1 {n : Int} (h : rgOk n = true) : kRng1 (some (.int n, m)) = some (rangeD 0 n.toNat, m) := by
  unfold kRng1 rng1I; simp [h, rtL]
theorem y_rng21 : kRng21 F G b env (some (x, m)) = kRng22 x (evE F G b env m) := rfl
theorem y_zip1 : kZip1 F G b env (some (x, m)) = kZip2 x (evE F G b env m) := rfl
theorem y_zip2 : kZip2 x (some (y, m)) = rtL (zipD x y) m := rfl
theorem y_zipT {ys : List D} : zipD (.tup xs) (.tup ys) = some (List.zipWith (fun a b => .tup [a, b]) xs ys) := rfl
theorem y_zipL {ys : List D} : zipD (.lst xs) (.lst ys) = some (List.zipWith (fun a b => .tup [a, b]) xs ys) := rfl
theorem y_rtE : rtE (some e') m = some (.nx, e', m) := rfl
theorem y_asg : kAsg t env (some (x, m)) = rtE (bindTg m t x env) m := rfl
theorem y_set1 : kSet1 F G o b env (some (x, m)) = kSet2 F G b env x (evE F G o env m) := rfl
theorem y_set2 : kSet2 F G b env x (some (y, m)) = kSet3 env x y (evE F G b env m) := rfl
theorem y_set3 : kSet3 env x y (some (d, m)) = setM env m x y d := rfl
theorem y_aug : kAug i op env (some (x, m)) = augR i op env m env[i]? x := rfl
theorem y_augA {n k : Int} : augR i .add env m (some (some (.int n))) (.int k) = some (.nx, env.set i (some (.int (n + k))), m) := rfl
theorem y_augS {n k : Int} : augR i .sub env m (some (some (.int n))) (.int k) = some (.nx, env.set i (some (.int (n - k))), m) := rfl
theorem y_ex : kEx env (some (x, m)) = some (.nx, env, m) := rfl
theorem y_ifST {sa sb : Ss} : kIfS F G sa sb env (some (.bl true, m)) = evB F G sa env m := rfl
theorem y_ifSF {sa sb : Ss} : kIfS F G sa sb env (some (.bl false, m)) = evB F G sb env m := rfl
theorem y_for : kFor F G t ss env (some (xs, m)) = forL t (evB F G ss) xs env m := rfl
theorem y_ret : kRet env (some (x, m)) = some (.rt x, env, m) := rfl
theorem y_nx : kSS F G ss (some (.nx, env, m)) = evB F G ss env m := rfl
theorem y_rt : kSS F G ss (some (.rt x, env, m)) = some (.rt x, env, m) := rfl
theorem y_bk : kSS F G ss (some (.bk, env, m)) = some (.bk, env, m) := rfl
theorem y_ct : kSS F G ss (some (.ct, env, m)) = some (.ct, env, m) := rfl
theorem y_fnR : kFn (some (.rt x, env, m)) = some (x, m) := rfl
theorem y_fnN : kFn (some (.nx, env, m)) = some (.non, m) := rfl
theorem y_nm : bindTg m (.nm i) d env = some (env.set i (some d)) := by rw [bindTg]
theorem y_tp {ts : Tgs} : bindTg m (.tp ts) (.tup xs) env = bindTgs m ts xs env := by rw [bindTg]
theorem y_tgn : bindTgs m .nil [] env = some env := by rw [bindTgs]
def kTgs (m : M) (ts : Tgs) (xs : List D) (r : Option Env) : Option Env := r.bind fun e => bindTgs m ts xs e
theorem y_tgc {ts : Tgs} : bindTgs m (.cons t ts) (d :: xs) env = kTgs m ts xs (bindTg m t d env) := by rw [bindTgs]; rfl
theorem y_tgk {ts : Tgs} : kTgs m ts xs (some env) = bindTgs m ts xs env := rfl
-- values
theorem v_add {n k : Int} : bopD m .add (.int n) (.int k) = some (.int (n + k)) := rfl
theorem v_sub {n k : Int} : bopD m .sub (.int n) (.int k) = some (.int (n - k)) := rfl
theorem v_mul {n k : Int} (h : mulOk n k = true) : bopD m .mul (.int n) (.int k) = some (.int (n * k)) := (if_pos h : (if mulOk n k = true then some (D.int (n * k)) else none) = _)
theorem v_fdiv {n k : Int} (h : divOk k = true) : bopD m .fdiv (.int n) (.int k) = some (.int (n / k)) := (if_pos h : (if divOk k = true then some (D.int (n / k)) else none) = _)
theorem v_mod {n k : Int} (h : 0 < k) : bopD m .mod (.int n) (.int k) = some (.int (n % k)) := (if_pos h : (if 0 < k then some (D.int (n % k)) else none) = _)
theorem v_pow {n k : Int} (h : powOk n k = true) : bopD m .pow (.int n) (.int k) = some (.int (n ^ k.toNat)) := (if_pos h : (if powOk n k = true then some (D.int (n ^ k.toNat)) else if powOk2 n k then some (D.int (n ^ k.toNat)) else none) = _)
theorem v_catT {xs ys : List D} (h : xs.length + ys.length ≤ lim) : bopD m .add (.tup xs) (.tup ys) = some (.tup (xs ++ ys)) := (if_pos h : (if xs.length + ys.length ≤ lim then some (D.tup (xs ++ ys)) else none) = _)
theorem v_catL {xs ys : List D} (h : xs.length + ys.length ≤ lim) : bopD m .add (.lst xs) (.lst ys) = some (.lst (xs ++ ys)) := (if_pos h : (if xs.length + ys.length ≤ lim then some (D.lst (xs ++ ys)) else none) = _)
theorem v_rep {xs : List D} {k : Int} (h0 : 0 ≤ k) (h1 : k < 2 ^ 63) (h : xs.length * k.toNat ≤ lim) : bopD m .mul (.lst xs) (.int k) = some (.lst (List.replicate k.toNat xs).flatten) := by
  have h2 : small k = true := by simp only [small, Bool.and_eq_true, decide_eq_true_eq]; omega
  have h3 : (small k && decide (-(2 ^ 63) ≤ k) && decide (k < 2 ^ 63) && decide (xs.length * k.toNat ≤ lim)) = true := by simp only [h2, Bool.and_eq_true, decide_eq_true_eq, true_and]; omega
  exact (if_pos h3 : (if (small k && decide (-(2 ^ 63) ≤ k) && decide (k < 2 ^ 63) && decide (xs.length * k.toNat ≤ lim)) = true then some (D.lst (List.replicate k.toNat xs).flatten) else none) = _)
theorem v_eqI {n k : Int} : cmpD m .eq (.int n) (.int k) = some (decide (n = k)) := rfl
theorem v_eqS {n k : Str} : cmpD m .eq (.str n) (.str k) = some (decide (n = k)) := rfl
theorem v_eqB {n k : Bool} : cmpD m .eq (.bl n) (.bl k) = some (n == k) := rfl
theorem v_neI {n k : Int} : cmpD m .ne (.int n) (.int k) = some (!decide (n = k)) := rfl
theorem v_neS {n k : Str} : cmpD m .ne (.str n) (.str k) = some (!decide (n = k)) := rfl
theorem v_neB {n k : Bool} : cmpD m .ne (.bl n) (.bl k) = some (!(n == k)) := rfl
theorem v_lt {n k : Int} : cmpD m .lt (.int n) (.int k) = some (decide (n < k)) := rfl
theorem v_le {n k : Int} : cmpD m .le (.int n) (.int k) = some (decide (n ≤ k)) := rfl
theorem v_gt {n k : Int} : cmpD m .gt (.int n) (.int k) = some (decide (k < n)) := rfl
theorem v_ge {n k : Int} : cmpD m .ge (.int n) (.int k) = some (decide (k ≤ n)) := rfl
theorem v_lenT : biD m .len [.tup xs] = some (.int xs.length) := rfl
theorem v_lenL : biD m .len [.lst xs] = some (.int xs.length) := rfl
theorem v_lenF : biD m .len [.frz xs] = some (.int xs.length) := rfl
theorem v_tupL : biD m .tuple [.lst xs] = some (.tup xs) := rfl
theorem v_tupT : biD m .tuple [.tup xs] = some (.tup xs) := rfl
theorem v_listL : biD m .list [.lst xs] = some (.lst xs) := rfl
theorem v_listT : biD m .list [.tup xs] = some (.lst xs) := rfl
theorem v_intI {n : Int} : biD m .int [.int n] = some (.int n) := rfl
theorem v_intB : biD m .int [.bl bb] = some (.int (if bb then 1 else 0)) := rfl
theorem v_max {n k : Int} : biD m .max2 [.int n, .int k] = some (.int (if k > n then k else n)) := rfl
theorem v_min {n k : Int} : biD m .min2 [.int n, .int k] = some (.int (if k < n then k else n)) := rfl
theorem v_ixT {n : Int} : ixD m (.tup xs) (.int n) = atD xs n := rfl
theorem v_ixL {n : Int} : ixD m (.lst xs) (.int n) = atD xs n := rfl
theorem v_ixR {l : Nat} {n : Int} (h : m[l]? = some (.lst xs)) : ixD m (.ref l) (.int n) = atD xs n := by
  simp only [ixD, deref, h]
theorem v_lenR {l : Nat} (h : m[l]? = some (.lst xs)) : biD m .len [.ref l] = some (.int xs.length) := by
  simp only [biD, lenD, deref, h, Option.map_some]
theorem v_tupR {l : Nat} (h : m[l]? = some (.lst xs)) : biD m .tuple [.ref l] = some (.tup xs) := by
  simp only [biD, seqOf, deref, h, Option.map_some]
theorem v_setR {l j : Nat} {n : Int} (h : m[l]? = some (.lst xs)) (hj : ixAt xs.length n = some j) : setM env m x (.ref l) (.int n) = some (.nx, env, m.set l (.lst (xs.set j x))) := by
  simp only [setM, h, hj]
theorem v_upR {l : Nat} {ts : Tgs} (h : m[l]? = some (.lst xs)) : bindTg m (.up ts) (.ref l) env = bindTgs m ts xs env := by
  simp only [bindTg, deref, h]
theorem ixAt_nat {n j : Nat} (h : j < n) : ixAt n (j : Int) = some j := by
  unfold ixAt
  rw [if_pos (by omega), if_pos (by omega)]
  simp
theorem atD_nat {j : Nat} (h : xs[j]? = some x) : atD xs (j : Int) = some x := by
  unfold atD
  rw [ixAt_nat (List.getElem?_eq_some_iff.mp h).1]
  exact h
theorem atD_ints {l : List Int} {j : Nat} (h : j < l.length) : atD (l.map .int) (j : Int) = some (.int l[j]) := atD_nat (by simp [h])
theorem v_at0 : atD (x :: xs) 0 = some x := atD_nat (j := 0) rfl
theorem v_at1 : atD (x :: y :: xs) 1 = some y := atD_nat (j := 1) rfl
theorem v_at2 : atD (x :: y :: d :: xs) 2 = some d := atD_nat (j := 2) rfl
theorem y_sl1 : kSl1 F G .nop c env (some (x, m)) = kSl2 F G x c env (some (none, m)) := rfl
theorem y_sl1i {n : Int} : kSl1 F G (.con (.int n)) c env (some (x, m)) = kSl2 F G x c env (some (some n, m)) := by
  unfold kSl1 partO isNop
  rw [Option.bind_some]
  simp only [Bool.false_eq_true, if_false, x_con, Option.bind_some]
theorem y_sl2 {lo : Option Int} : kSl2 F G x .nop env (some (lo, m)) = kSl3 x lo (some (none, m)) := rfl
theorem y_sl2i {n : Int} {lo : Option Int} : kSl2 F G x (.con (.int n)) env (some (lo, m)) = kSl3 x lo (some (some n, m)) := by
  unfold kSl2 partO isNop
  rw [Option.bind_some]
  simp only [Bool.false_eq_true, if_false, x_con, Option.bind_some]
theorem y_sl3 {lo hi : Option Int} : kSl3 x lo (some (hi, m)) = rt1 (slD m x lo hi) m := rfl
theorem v_slF {lo hi : Option Int} : slD m (.frz xs) lo hi = some (.lst (cutD xs lo hi)) := rfl
theorem v_slL {lo hi : Option Int} : slD m (.lst xs) lo hi = some (.lst (cutD xs lo hi)) := rfl
theorem v_slT {lo hi : Option Int} : slD m (.tup xs) lo hi = some (.tup (cutD xs lo hi)) := rfl
theorem comp_map {te : Env → M → Option (D × M)} (f : D → D) (l : List D) (h : ∀ x, x ∈ l → ∃ e', bindTg m t x env = some e' ∧ te e' m = some (f x, m)) : compL t env te l m = some (l.map f, m) := by
  induction l with
  | nil => rfl
  | cons d r ih =>
    obtain ⟨e', h1, h2⟩ := h d List.mem_cons_self
    rw [compL, h1, Option.bind_some, h2, Option.bind_some, ih fun x hx => h x (List.mem_cons_of_mem _ hx)]
    rfl
theorem comp_none {tc te : Env → M → Option (D × M)} (l : List D) (h : ∀ x, x ∈ l → ∃ e', bindTg m t x env = some e' ∧ tc e' m = some (.bl false, m)) : compLI t env tc te l m = some ([], m) := by
  induction l with
  | nil => rfl
  | cons d r ih =>
    obtain ⟨e', h1, h2⟩ := h d List.mem_cons_self
    rw [compLI, h1, Option.bind_some, h2, Option.bind_some]
    exact ih fun x hx => h x (List.mem_cons_of_mem _ hx)
theorem y_lcomp {te : Env → M → Option (D × M)} : compL t env te [] m = some ([], m) := rfl
theorem y_for0 {tb : Env → M → R} : forL t tb [] env m = some (.nx, env, m) := rfl
theorem rgOk_of {n : Int} (h0 : 0 ≤ n) (h1 : n < 2 ^ 62) : rgOk n = true := by simp only [rgOk, Bool.and_eq_true, decide_eq_true_eq]; omega
/-- a loop over a list of values, by an invariant -/
theorem for_ok {tb : Env → M → R} (I : Nat → Env → M → Prop) (l : List D) (env : Env) (m : M) (h0 : I 0 env m)
    (hs : ∀ i (h : i < l.length) env m, I i env m → ∃ e' env' m', bindTg m t l[i] env = some e' ∧ tb e' m = some (.nx, env', m') ∧ I (i + 1) env' m') :
    ∃ env' m', forL t tb l env m = some (.nx, env', m') ∧ I l.length env' m' := by
  suffices ∀ (r : List D) (i : Nat) (env : Env) (m : M), i + r.length = l.length → l.drop i = r → I i env m → ∃ env' m', forL t tb r env m = some (.nx, env', m') ∧ I l.length env' m' from this l 0 env m (by simp) rfl h0
  intro r
  induction r with
  | nil => intro i env m hi _ hI; exact ⟨env, m, rfl, by simp at hi; rw [← hi]; exact hI⟩
  | cons d r ih =>
    intro i env m hi hd hI
    have hlt : i < l.length := by simp at hi; omega
    have hdd : l[i] = d ∧ l.drop (i + 1) = r := by
      rw [List.drop_eq_getElem_cons hlt] at hd
      injection hd with a b
      exact ⟨a, b⟩
    obtain ⟨e', env', m', hb, ht, hI'⟩ := hs i hlt env m hI
    rw [hdd.1] at hb
    obtain ⟨env2, m2, h2, h3⟩ := ih (i + 1) env' m' (by simp at hi; omega) hdd.2 hI'
    refine ⟨env2, m2, ?_, h3⟩
    rw [forL, hb, Option.bind_some, ht, Option.bind_some]
    exact h2
/-- a comprehension, by an invariant -/
theorem comp_ok {te : Env → M → Option (D × M)} (I : Nat → List D → M → Prop) (l : List D) (env : Env) (m : M) (h0 : I 0 [] m)
    (hs : ∀ i (h : i < l.length) acc m, I i acc m → ∃ e' v m', bindTg m t l[i] env = some e' ∧ te e' m = some (v, m') ∧ I (i + 1) (acc ++ [v]) m') :
    ∃ vs m', compL t env te l m = some (vs, m') ∧ I l.length vs m' := by
  suffices ∀ (r : List D) (i : Nat) (acc : List D) (m : M), i + r.length = l.length → l.drop i = r → I i acc m → ∃ vs m', compL t env te r m = some (vs, m') ∧ I l.length (acc ++ vs) m' by
    simpa using this l 0 [] m (by simp) rfl h0
  intro r
  induction r with
  | nil => intro i acc m hi _ hI; exact ⟨[], m, rfl, by simp at hi; rw [← hi]; simpa using hI⟩
  | cons d r ih =>
    intro i acc m hi hd hI
    have hlt : i < l.length := by simp at hi; omega
    have hdd : l[i] = d ∧ l.drop (i + 1) = r := by
      rw [List.drop_eq_getElem_cons hlt] at hd
      injection hd with a b
      exact ⟨a, b⟩
    obtain ⟨e', v, m', hb, ht, hI'⟩ := hs i hlt acc m hI
    rw [hdd.1] at hb
    obtain ⟨vs, m2, h2, h3⟩ := ih (i + 1) (acc ++ [v]) m' (by simp at hi; omega) hdd.2 hI'
    refine ⟨v :: vs, m2, ?_, by simpa using h3⟩
    rw [compL, hb, Option.bind_some, ht, Option.bind_some, h2]
    rfl
theorem rangeD_len {lo : Int} {n : Nat} : (rangeD lo n).length = n := by simp [rangeD]
theorem rangeD_get {lo : Int} {n i : Nat} {h : i < (rangeD lo n).length} : (rangeD lo n)[i] = .int (lo + (i : Int)) := by simp [rangeD]
/-- a loop that gives back the first answer -/
theorem for_first {tb : Env → M → R} (f : D → Option D) (I : Env → Prop) : ∀ (l : List D) (env : Env), I env →
    (∀ x, x ∈ l → ∀ env, I env → ∃ e', bindTg m t x env = some e' ∧ match f x with
      | none => ∃ env', tb e' m = some (.nx, env', m) ∧ I env'
      | some v => ∃ env', tb e' m = some (.rt v, env', m)) →
    match l.findSome? f with
      | none => ∃ env', forL t tb l env m = some (.nx, env', m) ∧ I env'
      | some v => ∃ env', forL t tb l env m = some (.rt v, env', m) := by
  intro l
  induction l with
  | nil => intro env h _; exact ⟨env, rfl, h⟩
  | cons x l ih =>
    intro env h hs
    obtain ⟨e', hb, hx⟩ := hs x List.mem_cons_self env h
    rw [List.findSome?_cons]
    cases hf : f x with
    | some v =>
      rw [hf] at hx
      obtain ⟨env', ht⟩ := hx
      exact ⟨env', by rw [forL, hb, Option.bind_some, ht, Option.bind_some]⟩
    | none =>
      rw [hf] at hx
      obtain ⟨env', ht, h'⟩ := hx
      have ih := ih env' h' fun y hy => hs y (List.mem_cons_of_mem _ hy)
      have e : forL t tb (x :: l) env m = forL t tb l env' m := by rw [forL, hb, Option.bind_some, ht, Option.bind_some]
      rw [e]
      exact ih
def kPart (r : O1) : Option (Option Int × M) := r.bind fun p => match p.1 with
  | .int i => some (some i, p.2)
  | _ => none
theorem y_part {n : Int} : kPart (some (.int n, m)) = some (some n, m) := rfl
theorem y_sl1v {j : Nat} : kSl1 F G (.var j) c env (some (x, m)) = kSl2 F G x c env (kPart (evE F G (.var j) env m)) := rfl
theorem y_sl1b : kSl1 F G (.bin op a b) c env (some (x, m)) = kSl2 F G x c env (kPart (evE F G (.bin op a b) env m)) := rfl
theorem y_sl1n : kSl1 F G (.neg a) c env (some (x, m)) = kSl2 F G x c env (kPart (evE F G (.neg a) env m)) := rfl
theorem y_sl2v {j : Nat} {lo : Option Int} : kSl2 F G x (.var j) env (some (lo, m)) = kSl3 x lo (kPart (evE F G (.var j) env m)) := rfl
theorem y_sl2b {lo : Option Int} : kSl2 F G x (.bin op a b) env (some (lo, m)) = kSl3 x lo (kPart (evE F G (.bin op a b) env m)) := rfl
theorem y_sl2n {lo : Option Int} : kSl2 F G x (.neg a) env (some (lo, m)) = kSl3 x lo (kPart (evE F G (.neg a) env m)) := rfl
theorem v_isTT : isiD (.tup xs) .tuple = some true := rfl
theorem v_isTI : isiD (.tup xs) .int = some false := rfl
theorem v_isTB : isiD (.tup xs) .bool = some false := rfl
theorem v_isTS : isiD (.tup xs) .str = some false := rfl
theorem v_isIT {n : Int} : isiD (.int n) .tuple = some false := rfl
theorem v_isII {n : Int} : isiD (.int n) .int = some true := rfl
theorem v_isIB {n : Int} : isiD (.int n) .bool = some false := rfl
theorem v_isIS {n : Int} : isiD (.int n) .str = some false := rfl
theorem v_isBT : isiD (.bl bb) .tuple = some false := rfl
theorem v_isBI : isiD (.bl bb) .int = some true := rfl
theorem v_isBB : isiD (.bl bb) .bool = some true := rfl
theorem v_isBS : isiD (.bl bb) .str = some false := rfl
theorem v_isST {z : Str} : isiD (.str z) .tuple = some false := rfl
theorem v_isSI {z : Str} : isiD (.str z) .int = some false := rfl
theorem v_isSB {z : Str} : isiD (.str z) .bool = some false := rfl
theorem v_isSS {z : Str} : isiD (.str z) .str = some true := rfl
theorem v_isN {q : Ty} : isiD .non q = some false := by cases q <;> rfl
end
/-! ## texts, strict zip, while -/
section
variable (F : Fn) (G : List D)
def kRev (r : O1) : O1 := r.bind fun p => rt1 (revD p.2 p.1) p.2
def kJoin2 (x : D) (r : O1) : O1 := r.bind fun q => rt1 (joinD q.2 x q.1) q.2
def kJoin1 (b : E) (env : Env) (r : O1) : O1 := r.bind fun p => kJoin2 p.1 (evE F G b env p.2)
def kFmt (r : O1) : O1 := r.bind fun p => rt1 (txtD p.1) p.2
def rtS (o : Option Str) (m : M) : O1 := o.map fun d => (.str d, m)
def kFstr (r : OA) : O1 := r.bind fun p => rtS (gluD Str.empty p.1) p.2
def kZipS2 (x : D) (r : O1) : OA := r.bind fun q => rtL (zipSD x q.1) q.2
def kZipS1 (b : E) (env : Env) (r : O1) : OA := r.bind fun p => kZipS2 p.1 (evE F G b env p.2)
end
section
variable {F : Fn} {G : List D} {a b : E} {as : Es} {env : Env} {m : M} {x y : D} {xs ys : List D}
theorem x_rev : evE F G (.rev a) env m = kRev (evE F G a env m) := by rw [evE]; rfl
theorem x_join : evE F G (.join a b) env m = kJoin1 F G b env (evE F G a env m) := by rw [evE]; rfl
theorem x_fmt : evE F G (.fmt a) env m = kFmt (evE F G a env m) := by rw [evE]; rfl
theorem x_fstr : evE F G (.fstr as) env m = kFstr (evA F G as env m) := by rw [evE]; rfl
theorem x_zipS : evI F G (.zipS a b) env m = kZipS1 F G b env (evE F G a env m) := by rw [evI]; rfl
theorem y_rev : kRev (some (x, m)) = rt1 (revD m x) m := rfl
theorem y_join1 : kJoin1 F G b env (some (x, m)) = kJoin2 x (evE F G b env m) := rfl
theorem y_join2 : kJoin2 x (some (y, m)) = rt1 (joinD m x y) m := rfl
theorem y_fmt : kFmt (some (x, m)) = rt1 (txtD x) m := rfl
theorem y_fstr : kFstr (some (xs, m)) = rtS (gluD Str.empty xs) m := rfl
theorem y_rtS {z : Str} : rtS (some z) m = some (.str z, m) := rfl
theorem y_zipS1 : kZipS1 F G b env (some (x, m)) = kZipS2 x (evE F G b env m) := rfl
theorem y_zipS2 : kZipS2 x (some (y, m)) = rtL (zipSD x y) m := rfl
theorem v_zipST (h : xs.length = ys.length) : zipSD (.tup xs) (.tup ys) = some (List.zipWith (fun a b => .tup [a, b]) xs ys) := if_pos h
theorem v_slS {z : Str} {lo hi : Option Int} (h : z.length ≤ lim) : slD m (.str z) lo hi = some (.str (cutT z lo hi)) := (if_pos h : (if z.length ≤ lim then some (D.str (cutT z lo hi)) else none) = _)
theorem v_revS {z : Str} (h : z.length ≤ lim) : revD m (.str z) = some (.str (revT z)) := (if_pos h : (if z.length ≤ lim then some (D.str (revT z)) else none) = _)
theorem v_revL : revD m (.lst xs) = some (.lst xs.reverse) := rfl
theorem v_pow2 {n k : Int} (h : powOk2 n k = true) : bopD m .pow (.int n) (.int k) = some (.int (n ^ k.toNat)) := by
  show (if powOk n k = true then some (D.int (n ^ k.toNat)) else if powOk2 n k then some (D.int (n ^ k.toNat)) else none) = _
  rw [if_pos h]; split <;> rfl
theorem v_catS {z w : Str} (h : z.length + w.length ≤ lim) : bopD m .add (.str z) (.str w) = some (.str (z ++ w)) := (if_pos h : (if z.length + w.length ≤ lim then some (D.str (z ++ w)) else none) = _)
theorem while_ok {tc : Env → M → Option (D × M)} {tb : Env → M → R} (I : Nat → Env → M → Prop) (P : R → Prop)
    (st : ∀ k env m, I k env m → (∃ m1, tc env m = some (.bl false, m1) ∧ P (some (.nx, env, m1))) ∨ (∃ m1 e2 m2, tc env m = some (.bl true, m1) ∧ tb env m1 = some (.nx, e2, m2) ∧ ∃ j, j < k ∧ I j e2 m2) ∨
      ∃ m1 d e2 m2, tc env m = some (.bl true, m1) ∧ tb env m1 = some (.rt d, e2, m2) ∧ P (some (.rt d, e2, m2))) :
    ∀ (k n : Nat) (env : Env) (m : M), I k env m → k < n → P (whileL tc tb n env m) := by
  intro k
  induction k using Nat.strongRecOn with
  | ind k ih =>
    intro n env m hI hk
    match n, hk with
    | n + 1, hk =>
      rcases st k env m hI with ⟨m1, h1, h2⟩ | ⟨m1, e2, m2, h1, h2, j, hj, hI'⟩ | ⟨m1, d, e2, m2, h1, h2, h3⟩
      · rw [whileL, h1]; exact h2
      · rw [whileL, h1]
        show P ((tb env m1).bind _)
        rw [h2]
        exact ih j hj n e2 m2 hI' (by omega)
      · rw [whileL, h1]
        show P ((tb env m1).bind _)
        rw [h2]
        exact h3
end
/-! ## new lists handed out -/
def kFresh (m : M) (r : O1) : O1 := r.bind fun q => freshD m q
def kCallF (F : Fn) (f : Nat) (r : OA) : O1 := r.bind fun p => kFresh p.2 (F f p.1 p.2)
theorem x_callF {F : Fn} {G : List D} {as : Es} {env : Env} {m : M} {i : Nat} : evE F G (.callF i as) env m = kCallF F i (evA F G as env m) := by rw [evE]; rfl
theorem y_callF {F : Fn} {m : M} {i : Nat} {xs : List D} : kCallF F i (some (xs, m)) = kFresh m (F i xs m) := rfl
theorem y_fresh {m m2 g : M} {l : Nat} {xs : List D} (h : (m2 ++ g)[l]? = some (.lst xs)) (hl : m.length ≤ l) (he : m2.length = m.length) (hp : pures xs = true) (hb : belowM m.length m2 = true) : kFresh m (some (.ref l, m2 ++ g)) = some (.lst xs, m2) := by
  have e : (m2 ++ g).take m.length = m2 := by rw [← he, List.take_left]
  show freshD m (.ref l, m2 ++ g) = _
  unfold freshD
  simp only [h, e, hl, hp, hb, true_and, and_self, if_true]
end Pv

namespace Pv
open PySem
/-! ## equality of data -/
theorem lays_int : ∀ {l : List Int}, PyData.canLayAll0 (l.map PyData.int) = true
  | [] => by simp [PyData.canLayAll0]
  | d :: ds => by rw [List.map_cons, PyData.canLayAll0, lays_int, PyData.canLay0]; rfl
theorem pures_all {l : List D} : pures l = true ↔ ∀ x ∈ l, pure_ x = true := by
  induction l with
  | nil => simp [pures]
  | cons x r ih => simp [pures, ih]
theorem pures_int {l : List Int} : pures (l.map .int) = true := by
  rw [pures_all]; intro x hx; obtain ⟨c, _, rfl⟩ := List.mem_map.mp hx; rfl
theorem toPs_int {l : List Int} : toPs (l.map .int) = l.map PyData.int := by
  induction l with
  | nil => rfl
  | cons x r ih => simp [toPs, toP, ih]
theorem eqv_ints : ∀ {l k : List Int}, PyData.eqvAll (l.map PyData.int) (k.map PyData.int) = decide (l = k)
  | [], [] => by simp [PyData.eqvAll]
  | [], _ :: _ => by simp [PyData.eqvAll]
  | _ :: _, [] => by simp [PyData.eqvAll]
  | x :: l, y :: k => by
    simp only [List.map_cons, PyData.eqvAll, PyData.eqv, eqv_ints, List.cons.injEq]
    rw [Bool.eq_iff_iff]; simp
theorem depth_ints {l : List Int} : (PyData.list (l.map PyData.int)).depth ≤ 64 := by
  have : ∀ l : List Int, PyData.depthAll (l.map PyData.int) ≤ 2 := by
    intro l
    induction l with
    | nil => simp [PyData.depthAll]
    | cons x r ih => simp [PyData.depthAll, PyData.depth]; omega
  have := this l
  simp [PyData.depth]; omega
theorem intsD_int : ∀ {l : List Int}, intsD (l.map .int) = some l
  | [] => rfl
  | n :: l => by rw [List.map_cons, intsD, intsD_int]; rfl
theorem eq_lints {m : M} {l k : List Int} : eqD m (.lst (l.map .int)) (.lst (k.map .int)) = some (decide (l = k)) := by
  have e : eqOk (.lst (l.map .int)) (.lst (k.map .int)) = true := by
    have d := depth_ints (l := l)
    simp only [eqOk, pure_, pures_int, toP, toPs_int, PyData.canLay0, lays_int, Bool.true_and, decide_eq_true_eq]
    omega
  show (if eqOk (.lst (l.map .int)) (.lst (k.map .int)) = true then some (PyData.eqv (toP (.lst (l.map .int))) (toP (.lst (k.map .int)))) else none) = _
  rw [if_pos e]
  simp only [toP, toPs_int, PyData.eqv, eqv_ints]
theorem comp_filter {t : Tg} {env : Env} {m : M} {tc te : Env → M → Option (D × M)} (c : D → Bool) (f : D → D) (l : List D) (h : ∀ x, x ∈ l → ∃ e', bindTg m t x env = some e' ∧ tc e' m = some (.bl (c x), m) ∧ (c x = true → te e' m = some (f x, m))) : compLI t env tc te l m = some ((l.filter c).map f, m) := by
  induction l with
  | nil => rfl
  | cons d r ih =>
    obtain ⟨e', h1, h2, h3⟩ := h d List.mem_cons_self
    have ih := ih fun x hx => h x (List.mem_cons_of_mem _ hx)
    cases hc : c d with
    | true =>
      rw [compLI, h1, Option.bind_some, h2, Option.bind_some, hc]
      simp only [h3 hc, Option.bind_some, ih, List.filter_cons, hc, if_true, List.map_cons]
    | false =>
      rw [compLI, h1, Option.bind_some, h2, Option.bind_some, hc]
      simp only [ih, List.filter_cons, hc, Bool.false_eq_true, if_false]
theorem in_ints {m : M} {l : List Nat} {k : Nat} : inD m (.int (k : Int)) (.tup (l.map fun i : Nat => D.int (i : Int))) = some (decide (k ∈ l)) := by
  have h : (l.map fun i : Nat => D.int (i : Int)).all flatD = true := by simp [flatD]
  show (if (flatD (.int (k : Int)) && (l.map fun i : Nat => D.int (i : Int)).all flatD) = true then some ((l.map fun i : Nat => D.int (i : Int)).any fun z => eqF z (.int (k : Int))) else none) = _
  rw [h, if_pos (by rfl)]
  congr 1
  rw [Bool.eq_iff_iff]
  simp [eqF]
  constructor
  · rintro ⟨x, hx, e⟩; rw [← (by omega : x = k)]; exact hx
  · intro h; exact ⟨k, h, rfl⟩
end Pv

namespace Lw
open PySem Pv
def b_has_parts : Ss :=
  (.cons (.ret (.or_ (.cmp .eq (.ix (.var 0) (.con (.int 0))) (.con (.str "record"))) (.or1 (.cmp .eq (.ix (.var 0) (.con (.int 0))) (.con (.str "variant")))))) .nil)
def f_has_parts : FnD := ⟨"has_parts", ["kind"], ["kind"], b_has_parts⟩
def b_shown : Ss :=
  (.cons (.asg (.nm 1) (.ix (.var 0) (.con (.int 0)))) (.cons (.ife (.or_ (.cmp .eq (.var 1) (.con (.str "nat"))) (.or1 (.cmp .eq (.var 1) (.con (.str "int"))))) (.cons (.ret (.fstr (.cons (.fmt (.var 1)) (.cons (.fmt (.ix (.var 0) (.con (.int 1)))) .nil)))) .nil) .nil) (.cons (.ife (.callP 0 (.cons (.var 0) .nil)) (.cons (.ret (.bin .add (.bin .add (.bin .add (.var 1) (.con (.str "("))) (.join (.con (.str ", ")) (.comp [("name", 3), ("part", 4)] (.tp (.cons (.nm 3) (.cons (.nm 4) .nil))) (.seq (.ix (.var 0) (.con (.int 1)))) (.bin .add (.bin .add (.var 3) (.con (.str " "))) (.callP 1 (.cons (.var 4) .nil)))))) (.con (.str ")")))) .nil) .nil) (.cons (.ife (.cmp .eq (.var 1) (.con (.str "row"))) (.cons (.ret (.bin .add (.fstr (.cons (.con (.str "row ")) (.cons (.fmt (.ix (.var 0) (.con (.int 1)))) (.cons (.con (.str " ")) .nil)))) (.callP 1 (.cons (.ix (.var 0) (.con (.int 2))) .nil)))) .nil) .nil) (.cons (.ife (.or_ (.cmp .eq (.var 1) (.con (.str "maybe"))) (.or1 (.cmp .eq (.var 1) (.con (.str "box"))))) (.cons (.ret (.bin .add (.bin .add (.var 1) (.con (.str " "))) (.callP 1 (.cons (.ix (.var 0) (.con (.int 1))) .nil)))) .nil) .nil) (.cons (.ife (.cmp .eq (.var 1) (.con (.str "use"))) (.cons (.ret (.bin .add (.bin .add (.bin .add (.ix (.var 0) (.con (.int 1))) (.con (.str "["))) (.join (.con (.str ", ")) (.comp [("fill", 2)] (.nm 2) (.seq (.ix (.var 0) (.con (.int 2)))) (.callP 1 (.cons (.var 2) .nil))))) (.con (.str "]")))) .nil) .nil) (.cons (.ife (.cmp .eq (.var 1) (.con (.str "hole"))) (.cons (.ret (.bin .add (.con (.str "?")) (.ix (.var 0) (.con (.int 1))))) .nil) .nil) (.cons (.ret (.con (.str "truth"))) .nil))))))))
def f_shown : FnD := ⟨"shown", ["kind"], ["kind", "word", "fill", "name", "part"], b_shown⟩
def b__law_deck : Ss :=
  (.cons (.asg (.nm 1) (.bin .add (.bi .list (.cons (.sl (.var 0) .nop (.con (.int 63))) .nil)) (.bin .mul (.lst (.cons (.con (.int 0)) .nil)) (.bi .int (.cons (.cmp .eq (.bi .len (.cons (.var 0) .nil)) (.con (.int 0))) .nil))))) (.cons (.ret (.box (.lst (.cons (.var 1) (.cons (.con (.int 0)) (.cons (.box (.comp [("_law_cell", 2)] (.nm 2) (.seq (.var 1)) (.bin .mul (.var 2) (.bi .int (.cons (.cmp .ge (.var 2) (.bin .pow (.con (.int 10)) (.con (.int 18)))) .nil))))) .nil)))))) .nil))
def f__law_deck : FnD := ⟨"_law_deck", ["_law_script"], ["_law_script", "_law_cells", "_law_cell"], b__law_deck⟩
def b__law_pick : Ss :=
  (.cons (.asg (.up (.cons (.nm 5) (.cons (.nm 6) (.cons (.nm 7) .nil)))) (.var 0)) (.cons (.asg (.nm 2) (.bin .mod (.var 6) (.bi .len (.cons (.var 5) .nil)))) (.cons (.setix (.var 0) (.con (.int 1)) (.bin .add (.var 6) (.con (.int 1)))) (.cons (.ife (.cmp .gt (.ix (.var 7) (.var 2)) (.con (.int 0))) (.cons (.asg (.nm 8) (.bin .mod (.ix (.var 7) (.var 2)) (.var 1))) (.cons (.setix (.var 7) (.var 2) (.bin .fdiv (.ix (.var 7) (.var 2)) (.var 1))) (.cons (.ret (.var 8)) .nil))) .nil) (.cons (.asg (.nm 3) (.bin .mod (.bin .mul (.bin .add (.bin .mod (.ix (.var 5) (.var 2)) (.con (.int 2147483647))) (.con (.int 1))) (.bin .add (.bin .add (.bin .mul (.con (.int 1299709)) (.var 6)) (.con (.int 15485863))) (.var 2))) (.con (.int 2147483629)))) (.cons (.asg (.nm 4) (.bin .add (.bin .mod (.bin .fdiv (.ix (.var 5) (.var 2)) (.con (.int 2147483647))) (.con (.int 2147483647))) (.con (.int 3)))) (.cons (.asg (.nm 4) (.bin .mod (.bin .mul (.var 4) (.bin .add (.con (.int 49979687)) (.bin .mul (.con (.int 86028121)) (.var 6)))) (.con (.int 2147483587)))) (.cons (.asg (.nm 3) (.bin .mod (.bin .add (.bin .add (.bin .mul (.var 3) (.var 3)) (.bin .mul (.con (.int 32452843)) (.var 4))) (.var 6)) (.con (.int 2147483579)))) (.cons (.asg (.nm 4) (.bin .mod (.bin .add (.bin .add (.bin .mul (.var 4) (.var 4)) (.bin .mul (.con (.int 67867967)) (.var 3))) (.var 2)) (.con (.int 2147483563)))) (.cons (.ret (.bin .mod (.bin .mod (.bin .add (.bin .mul (.var 3) (.con (.int 2147483549))) (.var 4)) (.con (.int 4611686018427387847))) (.var 1))) .nil))))))))))
def f__law_pick : FnD := ⟨"_law_pick", ["_law_deck_here", "_law_many"], ["_law_deck_here", "_law_many", "_law_at", "_law_low", "_law_high", "_law_cells", "_law_drawn", "_law_left", "_law_digit"], b__law_pick⟩
def l__law_same_0 : Ss :=
  (.cons (.asg (.tp (.cons (.nm 3) (.cons (.nm 4) .nil))) (.pop (.var 2))) (.cons (.ife (.and_ (.isi (.var 3) .tuple) (.and1 (.isi (.var 4) .tuple))) (.cons (.ife (.cmp .ne (.bi .len (.cons (.var 3) .nil)) (.bi .len (.cons (.var 4) .nil))) (.cons (.ret (.con (.bl false))) .nil) .nil) (.cons (.asg (.nm 2) (.box (.bin .add (.var 2) (.comp [("_law_k", 5)] (.nm 5) (.rng1 (.bi .len (.cons (.var 3) .nil))) (.tup (.cons (.ix (.var 3) (.var 5)) (.cons (.ix (.var 4) (.var 5)) .nil))))))) .nil)) (.cons (.ife (.or_ (.isN (.var 3)) (.or1 (.isN (.var 4)))) (.cons (.ife (.or_ (.notN (.var 3)) (.or1 (.notN (.var 4)))) (.cons (.ret (.con (.bl false))) .nil) .nil) .nil) (.cons (.ife (.or_ (.cmp .ne (.isi (.var 3) .bool) (.isi (.var 4) .bool)) (.or1 (.cmp .ne (.isi (.var 3) .str) (.isi (.var 4) .str)))) (.cons (.ret (.con (.bl false))) .nil) (.cons (.ife (.or_ (.isi (.var 3) .tuple) (.or_ (.isi (.var 4) .tuple) (.or1 (.cmp .ne (.var 3) (.var 4))))) (.cons (.ret (.con (.bl false))) .nil) .nil) .nil)) .nil)) .nil)) .nil))
def b__law_same : Ss :=
  (.cons (.asg (.nm 2) (.box (.lst (.cons (.tup (.cons (.var 0) (.cons (.var 1) .nil))) .nil)))) (.cons (.while_ (.cmp .ne (.var 2) (.lst .nil)) l__law_same_0) (.cons (.ret (.con (.bl true))) .nil)))
def f__law_same : FnD := ⟨"_law_same", ["_law_one", "_law_other"], ["_law_one", "_law_other", "_law_heap", "_law_left", "_law_right", "_law_k"], b__law_same⟩
def b__law_letters : Ss :=
  (.cons (.ret (.join (.con (.str "")) (.comp [("_law_k", 2)] (.nm 2) (.rng1 (.var 1)) (.ix (.con (.str "abcdefghijklmnopqrstuvwxyz")) (.call 3 (.cons (.var 0) (.cons (.con (.int 26)) .nil))))))) .nil)
def f__law_letters : FnD := ⟨"_law_letters", ["_law_deck_here", "_law_many"], ["_law_deck_here", "_law_many", "_law_k"], b__law_letters⟩
def l__law_names_0 : Ss :=
  (.cons (.asg (.nm 8) (.popAt (.var 2) (.call 3 (.cons (.var 0) (.cons (.bi .len (.cons (.var 2) .nil)) .nil))))) (.cons (.asg (.nm 9) (.bin .add (.bin .add (.sl (.var 3) .nop (.var 4)) (.var 8)) (.sl (.var 3) (.var 4) .nop))) (.cons (.ife (.not_ (.var 5)) (.cons (.asg (.nm 9) (.call 5 (.cons (.var 0) (.cons (.bin .add (.con (.int 2)) (.ix (.lst (.cons (.call 3 (.cons (.var 0) (.cons (.con (.int 3)) .nil))) (.cons (.call 3 (.cons (.var 0) (.cons (.con (.int 11)) .nil))) .nil))) (.bin .fdiv (.call 3 (.cons (.var 0) (.cons (.con (.int 4)) .nil))) (.con (.int 3))))) .nil)))) (.cons (.ife (.cmp .isin (.var 9) (.var 6)) (.cons (.asg (.nm 9) (.var 8)) .nil) .nil) .nil)) .nil) (.cons (.ex (.append (.var 6) (.var 9))) .nil))))
def b__law_names : Ss :=
  (.cons (.asg (.nm 2) (.box (.bi .list (.cons (.con (.str "abcdefghijklmnopqrstuvwxyz")) .nil)))) (.cons (.asg (.nm 3) (.call 5 (.cons (.var 0) (.cons (.ix (.lst (.cons (.call 3 (.cons (.var 0) (.cons (.con (.int 4)) .nil))) (.cons (.call 3 (.cons (.var 0) (.cons (.con (.int 12)) .nil))) .nil))) (.bin .fdiv (.call 3 (.cons (.var 0) (.cons (.con (.int 4)) .nil))) (.con (.int 3)))) .nil)))) (.cons (.asg (.nm 4) (.call 3 (.cons (.var 0) (.cons (.bin .add (.bi .len (.cons (.var 3) .nil)) (.con (.int 1))) .nil)))) (.cons (.asg (.nm 5) (.cmp .eq (.call 3 (.cons (.var 0) (.cons (.con (.int 2)) .nil))) (.con (.int 1)))) (.cons (.asg (.nm 6) (.box (.lst .nil))) (.cons (.for_ (.nm 7) (.rng1 (.var 1)) l__law_names_0) (.cons (.ret (.var 6)) .nil)))))))
def f__law_names : FnD := ⟨"_law_names", ["_law_deck_here", "_law_many"], ["_law_deck_here", "_law_many", "_law_pool", "_law_stem", "_law_mark", "_law_near", "_law_found", "_law_k", "_law_letter", "_law_one"], b__law_names⟩
def b__law_leaf : Ss :=
  (.cons (.asg (.nm 2) (.call 3 (.cons (.var 0) (.cons (.con (.int 8)) .nil)))) (.cons (.ife (.cmp .eq (.var 2) (.con (.int 0))) (.cons (.ret (.tup (.cons (.con (.str "truth")) .nil))) .nil) .nil) (.cons (.ife (.cmp .eq (.var 2) (.con (.int 1))) (.cons (.ret (.tup (.cons (.con (.str "record")) (.cons (.tup .nil) .nil)))) .nil) .nil) (.cons (.ife (.and_ (.cmp .lt (.var 2) (.con (.int 4))) (.and1 (.cmp .gt (.bi .len (.cons (.var 1) .nil)) (.con (.int 0))))) (.cons (.ret (.tup (.cons (.con (.str "hole")) (.cons (.ix (.var 1) (.call 3 (.cons (.var 0) (.cons (.bi .len (.cons (.var 1) .nil)) .nil)))) .nil)))) .nil) .nil) (.cons (.asg (.nm 3) (.bin .add (.con (.int 1)) (.call 3 (.cons (.var 0) (.cons (.con (.int 64)) .nil))))) (.cons (.ife (.cmp .eq (.call 3 (.cons (.var 0) (.cons (.con (.int 2)) .nil))) (.con (.int 0))) (.cons (.asg (.nm 3) (.bin .mul (.con (.int 8)) (.bin .add (.con (.int 1)) (.bin .mod (.var 3) (.con (.int 8)))))) .nil) .nil) (.cons (.ret (.tup (.cons (.ix (.lst (.cons (.con (.str "nat")) (.cons (.con (.str "int")) .nil))) (.bin .mod (.var 2) (.con (.int 2)))) (.cons (.var 3) .nil)))) .nil)))))))
def f__law_leaf : FnD := ⟨"_law_leaf", ["_law_deck_here", "_law_holes"], ["_law_deck_here", "_law_holes", "_law_way", "_law_bits"], b__law_leaf⟩
def b__law_kind : Ss :=
  (.cons (.asg (.nm 5) (.call 3 (.cons (.var 0) (.cons (.con (.int 11)) .nil)))) (.cons (.ife (.or_ (.cmp .lt (.var 3) (.con (.int 2))) (.or_ (.cmp .lt (.var 4) (.con (.int 2))) (.or1 (.cmp .eq (.var 5) (.con (.int 0)))))) (.cons (.ret (.call 7 (.cons (.var 0) (.cons (.var 2) .nil)))) .nil) .nil) (.cons (.ife (.cmp .lt (.var 5) (.con (.int 5))) (.cons (.asg (.nm 7) (.bi .int (.cons (.cmp .gt (.var 5) (.con (.int 2))) .nil))) (.cons (.asg (.nm 8) (.bin .add (.var 7) (.call 3 (.cons (.var 0) (.cons (.ix (.lst (.cons (.con (.int 4)) (.cons (.con (.int 4)) (.cons (.con (.int 4)) (.cons (.bin .sub (.con (.int 9)) (.var 7)) .nil))))) (.call 3 (.cons (.var 0) (.cons (.con (.int 4)) .nil)))) .nil))))) (.cons (.asg (.nm 9) (.callF 6 (.cons (.var 0) (.cons (.bi .min2 (.cons (.var 8) (.cons (.bin .sub (.var 4) (.con (.int 1))) .nil))) .nil)))) (.cons (.asg (.nm 10) (.comp [("_law_name", 11)] (.nm 11) (.seq (.var 9)) (.tup (.cons (.var 11) (.cons (.call 8 (.cons (.var 0) (.cons (.var 1) (.cons (.var 2) (.cons (.bin .sub (.var 3) (.con (.int 1))) (.cons (.bin .fdiv (.bin .sub (.var 4) (.con (.int 1))) (.bi .len (.cons (.var 9) .nil))) .nil)))))) .nil))))) (.cons (.ret (.tup (.cons (.ix (.lst (.cons (.con (.str "record")) (.cons (.con (.str "variant")) .nil))) (.var 7)) (.cons (.bi .tuple (.cons (.var 10) .nil)) .nil)))) .nil))))) .nil) (.cons (.ife (.cmp .eq (.var 5) (.con (.int 5))) (.cons (.asg (.nm 8) (.bin .add (.con (.int 1)) (.call 3 (.cons (.var 0) (.cons (.ix (.lst (.cons (.con (.int 4)) (.cons (.con (.int 16)) .nil))) (.call 3 (.cons (.var 0) (.cons (.con (.int 2)) .nil)))) .nil))))) (.cons (.ret (.tup (.cons (.con (.str "row")) (.cons (.var 8) (.cons (.call 8 (.cons (.var 0) (.cons (.var 1) (.cons (.var 2) (.cons (.bin .sub (.var 3) (.con (.int 1))) (.cons (.bin .sub (.var 4) (.con (.int 1))) .nil)))))) .nil))))) .nil)) .nil) (.cons (.ife (.or_ (.cmp .lt (.var 5) (.con (.int 8))) (.or1 (.cmp .eq (.var 1) (.lst .nil)))) (.cons (.ret (.tup (.cons (.ix (.lst (.cons (.con (.str "maybe")) (.cons (.con (.str "box")) .nil))) (.bin .mod (.var 5) (.con (.int 2)))) (.cons (.call 8 (.cons (.var 0) (.cons (.var 1) (.cons (.var 2) (.cons (.bin .sub (.var 3) (.con (.int 1))) (.cons (.bin .sub (.var 4) (.con (.int 1))) .nil)))))) .nil)))) .nil) .nil) (.cons (.asg (.tp (.cons (.nm 11) (.cons (.nm 8) .nil))) (.ix (.var 1) (.call 3 (.cons (.var 0) (.cons (.bi .len (.cons (.var 1) .nil)) .nil))))) (.cons (.ife (.cmp .gt (.var 8) (.bin .sub (.var 4) (.con (.int 1)))) (.cons (.ret (.call 7 (.cons (.var 0) (.cons (.var 2) .nil)))) .nil) .nil) (.cons (.asg (.nm 6) (.comp [("_law_k", 12)] (.nm 12) (.rng1 (.var 8)) (.call 8 (.cons (.var 0) (.cons (.var 1) (.cons (.var 2) (.cons (.bin .sub (.var 3) (.con (.int 1))) (.cons (.bin .fdiv (.bin .sub (.var 4) (.con (.int 1))) (.var 8)) .nil)))))))) (.cons (.ret (.tup (.cons (.con (.str "use")) (.cons (.var 11) (.cons (.bi .tuple (.cons (.var 6) .nil)) .nil))))) .nil)))))))))
def f__law_kind : FnD := ⟨"_law_kind", ["_law_deck_here", "_law_heads", "_law_holes", "_law_deep", "_law_room"], ["_law_deck_here", "_law_heads", "_law_holes", "_law_deep", "_law_room", "_law_way", "_law_fills", "_law_least", "_law_many", "_law_names_here", "_law_pieces", "_law_name", "_law_k"], b__law_kind⟩
def b__law_inner : Ss :=
  (.cons (.asg (.nm 1) (.ix (.var 0) (.con (.int 0)))) (.cons (.ife (.or_ (.cmp .eq (.var 1) (.con (.str "record"))) (.or1 (.cmp .eq (.var 1) (.con (.str "variant"))))) (.cons (.ret (.comp [("_law_k", 2)] (.nm 2) (.rng1 (.bi .len (.cons (.ix (.var 0) (.con (.int 1))) .nil))) (.tup (.cons (.tup (.cons (.con (.int 1)) (.cons (.var 2) (.cons (.con (.int 1)) .nil)))) (.cons (.ix (.ix (.ix (.var 0) (.con (.int 1))) (.var 2)) (.con (.int 1))) .nil))))) .nil) .nil) (.cons (.ife (.cmp .eq (.var 1) (.con (.str "row"))) (.cons (.ret (.lst (.cons (.tup (.cons (.tup (.cons (.con (.int 2)) .nil)) (.cons (.ix (.var 0) (.con (.int 2))) .nil))) .nil))) .nil) .nil) (.cons (.ife (.or_ (.cmp .eq (.var 1) (.con (.str "maybe"))) (.or1 (.cmp .eq (.var 1) (.con (.str "box"))))) (.cons (.ret (.lst (.cons (.tup (.cons (.tup (.cons (.con (.int 1)) .nil)) (.cons (.ix (.var 0) (.con (.int 1))) .nil))) .nil))) .nil) .nil) (.cons (.ife (.cmp .eq (.var 1) (.con (.str "use"))) (.cons (.ret (.comp [("_law_k", 2)] (.nm 2) (.rng1 (.bi .len (.cons (.ix (.var 0) (.con (.int 2))) .nil))) (.tup (.cons (.tup (.cons (.con (.int 2)) (.cons (.var 2) .nil))) (.cons (.ix (.ix (.var 0) (.con (.int 2))) (.var 2)) .nil))))) .nil) .nil) (.cons (.ret (.lst .nil)) .nil))))))
def f__law_inner : FnD := ⟨"_law_inner", ["_law_kind_here"], ["_law_kind_here", "_law_word", "_law_k"], b__law_inner⟩
def l__law_forms_0 : Ss :=
  (.cons (.asg (.tp (.cons (.nm 3) (.cons (.nm 4) .nil))) (.pop (.var 1))) (.cons (.ex (.append (.var 2) (.tup (.cons (.var 3) (.cons (.var 4) .nil))))) (.cons (.asg (.nm 1) (.box (.bin .add (.var 1) (.rev (.comp [("_law_way", 5), ("_law_piece", 6)] (.tp (.cons (.nm 5) (.cons (.nm 6) .nil))) (.seq (.callP 9 (.cons (.var 4) .nil))) (.tup (.cons (.bin .add (.var 3) (.var 5)) (.cons (.var 6) .nil)))))))) .nil)))
def b__law_forms : Ss :=
  (.cons (.asg (.nm 1) (.box (.lst (.cons (.tup (.cons (.tup .nil) (.cons (.var 0) .nil))) .nil)))) (.cons (.asg (.nm 2) (.box (.lst .nil))) (.cons (.while_ (.cmp .ne (.var 1) (.lst .nil)) l__law_forms_0) (.cons (.ret (.var 2)) .nil))))
def f__law_forms : FnD := ⟨"_law_forms", ["_law_kind_here"], ["_law_kind_here", "_law_heap", "_law_found", "_law_place", "_law_one", "_law_way", "_law_piece"], b__law_forms⟩
def b__law_put : Ss :=
  (.cons (.ife (.cmp .eq (.var 1) (.tup .nil)) (.cons (.ret (.var 2)) .nil) .nil) (.cons (.asg (.nm 3) (.ix (.var 1) (.con (.int 0)))) (.cons (.ret (.bin .add (.bin .add (.sl (.var 0) .nop (.var 3)) (.tup (.cons (.callP 11 (.cons (.ix (.var 0) (.var 3)) (.cons (.sl (.var 1) (.con (.int 1)) .nop) (.cons (.var 2) .nil)))) .nil))) (.sl (.var 0) (.bin .add (.var 3) (.con (.int 1))) .nop))) .nil)))
def f__law_put : FnD := ⟨"_law_put", ["_law_thing", "_law_place", "_law_new"], ["_law_thing", "_law_place", "_law_new", "_law_at"], b__law_put⟩
def b__law_text : Ss :=
  (.cons (.asg (.nm 1) (.ix (.var 0) (.con (.int 0)))) (.cons (.ife (.or_ (.cmp .eq (.var 1) (.con (.str "nat"))) (.or1 (.cmp .eq (.var 1) (.con (.str "int"))))) (.cons (.ret (.bin .add (.var 1) (.bi .str (.cons (.ix (.var 0) (.con (.int 1))) .nil)))) .nil) .nil) (.cons (.ife (.or_ (.cmp .eq (.var 1) (.con (.str "record"))) (.or1 (.cmp .eq (.var 1) (.con (.str "variant"))))) (.cons (.ret (.bin .add (.bin .add (.bin .add (.var 1) (.con (.str "("))) (.join (.con (.str ", ")) (.comp [("_law_name", 3), ("_law_piece", 4)] (.tp (.cons (.nm 3) (.cons (.nm 4) .nil))) (.seq (.ix (.var 0) (.con (.int 1)))) (.bin .add (.bin .add (.var 3) (.con (.str " "))) (.callP 12 (.cons (.var 4) .nil)))))) (.con (.str ")")))) .nil) .nil) (.cons (.ife (.cmp .eq (.var 1) (.con (.str "row"))) (.cons (.ret (.bin .add (.bin .add (.bin .add (.con (.str "row ")) (.bi .str (.cons (.ix (.var 0) (.con (.int 1))) .nil))) (.con (.str " "))) (.callP 12 (.cons (.ix (.var 0) (.con (.int 2))) .nil)))) .nil) .nil) (.cons (.ife (.or_ (.cmp .eq (.var 1) (.con (.str "maybe"))) (.or1 (.cmp .eq (.var 1) (.con (.str "box"))))) (.cons (.ret (.bin .add (.bin .add (.var 1) (.con (.str " "))) (.callP 12 (.cons (.ix (.var 0) (.con (.int 1))) .nil)))) .nil) .nil) (.cons (.ife (.cmp .eq (.var 1) (.con (.str "use"))) (.cons (.ret (.bin .add (.bin .add (.bin .add (.ix (.var 0) (.con (.int 1))) (.con (.str "["))) (.join (.con (.str ", ")) (.comp [("_law_fill", 2)] (.nm 2) (.seq (.ix (.var 0) (.con (.int 2)))) (.callP 12 (.cons (.var 2) .nil))))) (.con (.str "]")))) .nil) .nil) (.cons (.ife (.cmp .eq (.var 1) (.con (.str "hole"))) (.cons (.ret (.bin .add (.con (.str "?")) (.ix (.var 0) (.con (.int 1))))) .nil) .nil) (.cons (.ret (.var 1)) .nil))))))))
def f__law_text : FnD := ⟨"_law_text", ["_law_kind_here"], ["_law_kind_here", "_law_word", "_law_fill", "_law_name", "_law_piece"], b__law_text⟩
def b__law_turned : Ss :=
  (.cons (.asg (.nm 3) (.ix (.var 1) (.con (.int 0)))) (.cons (.asg (.nm 4) (.ix (.callF 6 (.cons (.var 0) (.cons (.con (.int 1)) .nil))) (.con (.int 0)))) (.cons (.ife (.or_ (.cmp .eq (.var 3) (.con (.str "nat"))) (.or1 (.cmp .eq (.var 3) (.con (.str "int"))))) (.cons (.ret (.ix (.lst (.cons (.tup (.cons (.var 3) (.cons (.bin .add (.con (.int 1)) (.bin .mod (.ix (.var 1) (.con (.int 1))) (.con (.int 64)))) .nil))) (.cons (.tup (.cons (.ix (.lst (.cons (.con (.str "nat")) (.cons (.con (.str "int")) .nil))) (.bi .int (.cons (.cmp .eq (.var 3) (.con (.str "nat"))) .nil))) (.cons (.ix (.var 1) (.con (.int 1))) .nil))) .nil))) (.call 3 (.cons (.var 0) (.cons (.con (.int 2)) .nil))))) .nil) .nil) (.cons (.ife (.and_ (.or_ (.cmp .eq (.var 3) (.con (.str "record"))) (.or1 (.cmp .eq (.var 3) (.con (.str "variant"))))) (.and1 (.cmp .gt (.bi .len (.cons (.ix (.var 1) (.con (.int 1))) .nil)) (.con (.int 0))))) (.cons (.asg (.nm 5) (.call 3 (.cons (.var 0) (.cons (.bi .len (.cons (.ix (.var 1) (.con (.int 1))) .nil)) .nil)))) (.cons (.ife (.or_ (.cmp .eq (.call 3 (.cons (.var 0) (.cons (.con (.int 3)) .nil))) (.con (.int 0))) (.or1 (.cmp .isin (.var 4) (.comp [("_law_called", 6), ("_law_piece", 7)] (.tp (.cons (.nm 6) (.cons (.nm 7) .nil))) (.seq (.ix (.var 1) (.con (.int 1)))) (.var 6))))) (.cons (.ret (.tup (.cons (.ix (.lst (.cons (.con (.str "record")) (.cons (.con (.str "variant")) .nil))) (.bi .int (.cons (.cmp .eq (.var 3) (.con (.str "record"))) .nil))) (.cons (.ix (.var 1) (.con (.int 1))) .nil)))) .nil) .nil) (.cons (.ret (.tup (.cons (.var 3) (.cons (.bin .add (.bin .add (.sl (.ix (.var 1) (.con (.int 1))) .nop (.var 5)) (.tup (.cons (.tup (.cons (.var 4) (.cons (.ix (.ix (.ix (.var 1) (.con (.int 1))) (.var 5)) (.con (.int 1))) .nil))) .nil))) (.sl (.ix (.var 1) (.con (.int 1))) (.bin .add (.var 5) (.con (.int 1))) .nop)) .nil)))) .nil))) .nil) (.cons (.ife (.cmp .eq (.var 3) (.con (.str "row"))) (.cons (.ret (.tup (.cons (.con (.str "row")) (.cons (.bin .add (.con (.int 1)) (.bin .mod (.ix (.var 1) (.con (.int 1))) (.con (.int 16)))) (.cons (.ix (.var 1) (.con (.int 2))) .nil))))) .nil) .nil) (.cons (.ife (.or_ (.cmp .eq (.var 3) (.con (.str "maybe"))) (.or1 (.cmp .eq (.var 3) (.con (.str "box"))))) (.cons (.ret (.tup (.cons (.ix (.lst (.cons (.con (.str "maybe")) (.cons (.con (.str "box")) .nil))) (.bi .int (.cons (.cmp .eq (.var 3) (.con (.str "maybe"))) .nil))) (.cons (.ix (.var 1) (.con (.int 1))) .nil)))) .nil) .nil) (.cons (.ife (.cmp .eq (.var 3) (.con (.str "use"))) (.cons (.ret (.ix (.lst (.cons (.tup (.cons (.con (.str "use")) (.cons (.var 4) (.cons (.ix (.var 1) (.con (.int 2))) .nil)))) (.cons (.tup (.cons (.con (.str "use")) (.cons (.ix (.var 1) (.con (.int 1))) (.cons (.bin .add (.ix (.var 1) (.con (.int 2))) (.tup (.cons (.tup (.cons (.con (.str "truth")) .nil)) .nil))) .nil)))) .nil))) (.call 3 (.cons (.var 0) (.cons (.con (.int 2)) .nil))))) .nil) .nil) (.cons (.ife (.cmp .eq (.var 3) (.con (.str "hole"))) (.cons (.ret (.tup (.cons (.con (.str "hole")) (.cons (.var 4) .nil)))) .nil) .nil) (.cons (.ret (.call 7 (.cons (.var 0) (.cons (.var 2) .nil)))) .nil)))))))))
def f__law_turned : FnD := ⟨"_law_turned", ["_law_deck_here", "_law_kind_here", "_law_holes"], ["_law_deck_here", "_law_kind_here", "_law_holes", "_law_word", "_law_name", "_law_at", "_law_called", "_law_piece"], b__law_turned⟩
def b_law : Ss :=
  (.cons (.asg (.nm 1) (.call 2 (.cons (.var 0) .nil))) (.cons (.asg (.nm 2) (.call 3 (.cons (.var 1) (.cons (.con (.int 3)) .nil)))) (.cons (.asg (.nm 3) (.call 3 (.cons (.var 1) (.cons (.con (.int 1000)) .nil)))) (.cons (.asg (.nm 4) (.ix (.lst (.cons (.con (.int 6)) (.cons (.con (.int 12)) (.cons (.con (.int 39)) .nil)))) (.call 3 (.cons (.var 1) (.cons (.con (.int 3)) .nil))))) (.cons (.asg (.nm 5) (.callF 6 (.cons (.var 1) (.cons (.con (.int 3)) .nil)))) (.cons (.asg (.nm 6) (.comp [("_law_name", 13)] (.nm 13) (.seq (.var 5)) (.tup (.cons (.var 13) (.cons (.call 3 (.cons (.var 1) (.cons (.con (.int 4)) .nil))) .nil))))) (.cons (.asg (.nm 7) (.bi .tuple (.cons (.callF 6 (.cons (.var 1) (.cons (.call 3 (.cons (.var 1) (.cons (.con (.int 4)) .nil))) .nil))) .nil))) (.cons (.asg (.nm 8) (.call 8 (.cons (.var 1) (.cons (.var 6) (.cons (.var 7) (.cons (.bin .add (.con (.int 1)) (.call 3 (.cons (.var 1) (.cons (.con (.int 8)) .nil)))) (.cons (.var 4) .nil))))))) (.cons (.asg (.nm 9) (.call 8 (.cons (.var 1) (.cons (.var 6) (.cons (.var 7) (.cons (.bin .add (.con (.int 1)) (.call 3 (.cons (.var 1) (.cons (.con (.int 8)) .nil)))) (.cons (.var 4) .nil))))))) (.cons (.ife (.cmp .gt (.var 2) (.con (.int 0))) (.cons (.asg (.nm 12) (.callF 10 (.cons (.var 8) .nil))) (.cons (.asg (.tp (.cons (.nm 14) (.cons (.nm 15) .nil))) (.ix (.var 12) (.bin .mod (.var 3) (.bi .len (.cons (.var 12) .nil))))) (.cons (.asg (.nm 9) (.callP 11 (.cons (.var 8) (.cons (.var 14) (.cons (.call 13 (.cons (.var 1) (.cons (.var 15) (.cons (.var 7) .nil)))) .nil))))) .nil))) .nil) (.cons (.asg (.nm 10) (.callP 1 (.cons (.var 8) .nil))) (.cons (.asg (.nm 11) (.callP 1 (.cons (.var 9) .nil))) (.cons (.ife (.or_ (.not_ (.isi (.var 10) .str)) (.or1 (.cmp .ne (.var 10) (.callP 12 (.cons (.var 8) .nil))))) (.cons (.ret (.con (.bl false))) .nil) .nil) (.cons (.ife (.or_ (.not_ (.isi (.var 11) .str)) (.or1 (.cmp .ne (.var 11) (.callP 12 (.cons (.var 9) .nil))))) (.cons (.ret (.con (.bl false))) .nil) .nil) (.cons (.ret (.and_ (.cmp .eq (.cmp .eq (.var 10) (.var 11)) (.callP 4 (.cons (.var 8) (.cons (.var 9) .nil)))) (.and1 (.cmp .eq (.callP 1 (.cons (.var 8) .nil)) (.var 10))))) .nil)))))))))))))))
def f_law : FnD := ⟨"law", ["_law_script"], ["_law_script", "_law_deck_here", "_law_change", "_law_where", "_law_room", "_law_names_here", "_law_heads", "_law_holes", "_law_one", "_law_other", "_law_left", "_law_right", "_law_places", "_law_name", "_law_place", "_law_held"], b_law⟩
theorem r_has_parts {F : Fn} {G : List D} {a0 : D} {m : M} : runBody F G f_has_parts [a0] m = kFn (evB F G b_has_parts [some a0] m) := rfl
theorem r_shown {F : Fn} {G : List D} {a0 : D} {m : M} : runBody F G f_shown [a0] m = kFn (evB F G b_shown [some a0, none, none, none, none] m) := rfl
theorem r__law_deck {F : Fn} {G : List D} {a0 : D} {m : M} : runBody F G f__law_deck [a0] m = kFn (evB F G b__law_deck [some a0, none, none] m) := rfl
theorem r__law_pick {F : Fn} {G : List D} {a0 a1 : D} {m : M} : runBody F G f__law_pick [a0, a1] m = kFn (evB F G b__law_pick [some a0, some a1, none, none, none, none, none, none, none] m) := rfl
theorem r__law_same {F : Fn} {G : List D} {a0 a1 : D} {m : M} : runBody F G f__law_same [a0, a1] m = kFn (evB F G b__law_same [some a0, some a1, none, none, none, none] m) := rfl
theorem r__law_letters {F : Fn} {G : List D} {a0 a1 : D} {m : M} : runBody F G f__law_letters [a0, a1] m = kFn (evB F G b__law_letters [some a0, some a1, none] m) := rfl
theorem r__law_names {F : Fn} {G : List D} {a0 a1 : D} {m : M} : runBody F G f__law_names [a0, a1] m = kFn (evB F G b__law_names [some a0, some a1, none, none, none, none, none, none, none, none] m) := rfl
theorem r__law_leaf {F : Fn} {G : List D} {a0 a1 : D} {m : M} : runBody F G f__law_leaf [a0, a1] m = kFn (evB F G b__law_leaf [some a0, some a1, none, none] m) := rfl
theorem r__law_kind {F : Fn} {G : List D} {a0 a1 a2 a3 a4 : D} {m : M} : runBody F G f__law_kind [a0, a1, a2, a3, a4] m = kFn (evB F G b__law_kind [some a0, some a1, some a2, some a3, some a4, none, none, none, none, none, none, none, none] m) := rfl
theorem r__law_inner {F : Fn} {G : List D} {a0 : D} {m : M} : runBody F G f__law_inner [a0] m = kFn (evB F G b__law_inner [some a0, none, none] m) := rfl
theorem r__law_forms {F : Fn} {G : List D} {a0 : D} {m : M} : runBody F G f__law_forms [a0] m = kFn (evB F G b__law_forms [some a0, none, none, none, none, none, none] m) := rfl
theorem r__law_put {F : Fn} {G : List D} {a0 a1 a2 : D} {m : M} : runBody F G f__law_put [a0, a1, a2] m = kFn (evB F G b__law_put [some a0, some a1, some a2, none] m) := rfl
theorem r__law_text {F : Fn} {G : List D} {a0 : D} {m : M} : runBody F G f__law_text [a0] m = kFn (evB F G b__law_text [some a0, none, none, none, none] m) := rfl
theorem r__law_turned {F : Fn} {G : List D} {a0 a1 a2 : D} {m : M} : runBody F G f__law_turned [a0, a1, a2] m = kFn (evB F G b__law_turned [some a0, some a1, some a2, none, none, none, none, none] m) := rfl
theorem r_law {F : Fn} {G : List D} {a0 : D} {m : M} : runBody F G f_law [a0] m = kFn (evB F G b_law [some a0, none, none, none, none, none, none, none, none, none, none, none, none, none, none, none] m) := rfl
def tab : List FnD := [f_has_parts, f_shown, f__law_deck, f__law_pick, f__law_same, f__law_letters, f__law_names, f__law_leaf, f__law_kind, f__law_inner, f__law_forms, f__law_put, f__law_text, f__law_turned, f_law]
def glo : List (Str × D) := []
theorem run_has_parts {G : List D} {n : Nat} : run tab G (n + 1) 0 = runBody (run tab G n) G f_has_parts := rfl
theorem run_shown {G : List D} {n : Nat} : run tab G (n + 1) 1 = runBody (run tab G n) G f_shown := rfl
theorem run__law_deck {G : List D} {n : Nat} : run tab G (n + 1) 2 = runBody (run tab G n) G f__law_deck := rfl
theorem run__law_pick {G : List D} {n : Nat} : run tab G (n + 1) 3 = runBody (run tab G n) G f__law_pick := rfl
theorem run__law_same {G : List D} {n : Nat} : run tab G (n + 1) 4 = runBody (run tab G n) G f__law_same := rfl
theorem run__law_letters {G : List D} {n : Nat} : run tab G (n + 1) 5 = runBody (run tab G n) G f__law_letters := rfl
theorem run__law_names {G : List D} {n : Nat} : run tab G (n + 1) 6 = runBody (run tab G n) G f__law_names := rfl
theorem run__law_leaf {G : List D} {n : Nat} : run tab G (n + 1) 7 = runBody (run tab G n) G f__law_leaf := rfl
theorem run__law_kind {G : List D} {n : Nat} : run tab G (n + 1) 8 = runBody (run tab G n) G f__law_kind := rfl
theorem run__law_inner {G : List D} {n : Nat} : run tab G (n + 1) 9 = runBody (run tab G n) G f__law_inner := rfl
theorem run__law_forms {G : List D} {n : Nat} : run tab G (n + 1) 10 = runBody (run tab G n) G f__law_forms := rfl
theorem run__law_put {G : List D} {n : Nat} : run tab G (n + 1) 11 = runBody (run tab G n) G f__law_put := rfl
theorem run__law_text {G : List D} {n : Nat} : run tab G (n + 1) 12 = runBody (run tab G n) G f__law_text := rfl
theorem run__law_turned {G : List D} {n : Nat} : run tab G (n + 1) 13 = runBody (run tab G n) G f__law_turned := rfl
theorem run_law {G : List D} {n : Nat} : run tab G (n + 1) 14 = runBody (run tab G n) G f_law := rfl
end Lw

namespace Lw
open PySem Pv
structure Dk where
  R : List Int
  C : List Int
  k : Nat
structure Dk.Ok (s : Dk) : Prop where
  len : s.C.length = s.R.length
  pos : 0 < s.C.length
  few : s.C.length ≤ 63
def mem (s : Dk) (g : M) : M := .lst (s.R.map .int) :: .lst [.lst (s.C.map .int), .int s.k, .ref 0] :: g
theorem set1 {env : Pv.Env} {o : MO} {a b c v : D} {g : M} : setM env (o :: .lst [a, b, c] :: g) v (.ref 1) (.int 1) = some (.nx, env, o :: .lst [a, v, c] :: g) := by
  rw [v_setR (l := 1) (j := 1) rfl (by rfl)]
  rfl
theorem set0 {env : Pv.Env} {l : List Int} {v : Int} {j : Nat} {g : M} (h : j < l.length) : setM env (.lst (l.map .int) :: g) (.int v) (.ref 0) (.int (j : Int)) = some (.nx, env, .lst ((l.set j v).map .int) :: g) := by
  rw [v_setR (l := 0) (j := j) rfl (by rw [List.length_map]; exact ixAt_nat h), List.map_set]
  rfl
theorem ix0 {l : List Int} {j : Nat} {g : M} (h : j < l.length) : ixD (.lst (l.map .int) :: g) (.ref 0) (.int (j : Int)) = some (.int l[j]) := by
  rw [v_ixR (l := 0) rfl]
  exact atD_ints h
theorem up3 {env : Pv.Env} {o : MO} {a b c : D} {g : M} {ts : Tgs} : bindTg (o :: .lst [a, b, c] :: g) (.up ts) (.ref 1) env = bindTgs (o :: .lst [a, b, c] :: g) ts [a, b, c] env := v_upR rfl
theorem small_of {i : Int} (h0 : 0 ≤ i) (h1 : i < 2 ^ 64) : small i = true := by simp only [small, Bool.and_eq_true, decide_eq_true_eq]; omega
theorem mulOk_l {i j : Int} (h0 : 0 ≤ i) (h1 : i < 2 ^ 64) : mulOk i j = true := by simp only [mulOk, small_of h0 h1, Bool.true_or]
theorem pick_ok (F : Fn) (G : List D) (s : Dk) (h : s.Ok) (hk : s.k < 2 ^ 40) (many : Int) (h0 : 0 < many) (h9 : many.natAbs.log2 < 9000) (g : M) :
    ∃ d s', runBody F G f__law_pick [.ref 1, .int many] (mem s g) = some (.int d, mem s' g) ∧ 0 ≤ d ∧ d < many ∧ s'.k = s.k + 1 ∧ s'.Ok := by
  obtain ⟨j, hj, ej⟩ : ∃ j : Nat, j < s.C.length ∧ ((s.k : Int) % (s.C.length : Int)) = (j : Int) := ⟨s.k % s.C.length, Nat.mod_lt _ h.pos, by simp⟩
  have hjr : j < s.R.length := by rw [← h.len]; exact hj
  have hjf : j < 63 := Nat.lt_of_lt_of_le hj h.few
  have hc : (0 : Int) < (s.C.length : Int) := by have := h.pos; omega
  have e1 := atD_ints (l := s.C) hj
  have hd : divOk many = true := by simp [divOk, h0, h9]
  rw [r__law_pick]
  by_cases hp : 0 < s.R[j]
  · refine ⟨s.R[j] % many, ⟨s.R.set j (s.R[j] / many), s.C, s.k + 1⟩, ?_, Int.emod_nonneg _ (by omega), Int.emod_lt_of_pos _ h0, rfl, ⟨by simpa using h.len, h.pos, h.few⟩⟩
    simp -implicitDefEqProofs only [x_var, y_var, x_con, x_glob, x_bin, x_neg, x_cmp, x_chain, x_isN, x_notN, x_and, x_and1, x_or, x_or1, x_not, x_ife, x_call, x_callP, x_bi, x_isi, x_listRg, x_ix, x_sl, x_tup, x_lst, x_comp, x_compIf, x_box, x_pop, x_popAt, x_append, x_nil, x_cons, x_seq, x_rng1, x_rng2, x_zip, x_asg, x_setix, x_aug, x_ex, x_if, x_for, x_while, x_ret, x_brk, x_cont, x_bnil, x_bcons, y_rt1, y_rtB, y_bin1, y_bin2, y_cmp1, y_cmp2, y_neg, y_isN, y_notN, y_andT, y_andF, y_orT, y_orF, y_not, y_ifT, y_ifF, y_chain1, y_chain2, y_chainT, y_chainF, y_chain3, y_cons1, y_cons2, y_call, y_callP, y_bi, y_isi, y_ix1, y_ix2, y_tup0, y_tup1, y_tup2, y_tup3, y_tup4, y_lst0, y_lst1, y_lst2, y_lst3, y_lc, y_box, y_pop, y_popAt1, y_popAt2, y_append1, y_append2, y_rtL, y_seq, y_seqT, y_seqL, y_rng21, y_zip1, y_zip2, y_zipT, y_zipL, y_rtE, y_asg, y_set1, y_set2, y_set3, y_aug, y_augA, y_augS, y_ex, y_ifST, y_ifSF, y_for, y_ret, y_nx, y_rt, y_bk, y_ct, y_fnR, y_fnN, y_nm, y_tp, y_tgn, y_tgc, y_tgk, v_add, v_sub, v_eqI, v_eqS, v_eqB, v_neI, v_neS, v_neB, v_lt, v_le, v_gt, v_ge, v_lenT, v_lenL, v_lenF, v_tupL, v_tupT, v_listL, v_listT, v_intI, v_intB, v_max, v_min, v_ixT, v_ixL, v_at0, v_at1, v_at2, y_lst4, y_lst5, y_lst6, y_lst7, y_tup5, y_tup6, y_sl1, y_sl1i, y_sl2, y_sl2i, y_sl3, v_slF, v_slL, v_slT, w_0, w_1, y_part, y_sl1v, y_sl1b, y_sl1n, y_sl2v, y_sl2b, y_sl2n, v_isTT, v_isTI, v_isTB, v_isTS, v_isIT, v_isII, v_isIB, v_isIS, v_isBT, v_isBI, v_isBB, v_isBS, v_isST, v_isSI, v_isSB, v_isSS, v_isN, x_rev, x_join, x_fmt, x_fstr, x_zipS, y_rev, y_join1, y_join2, y_fmt, y_fstr, y_rtS, y_zipS1, y_zipS2, v_revL, x_callF, y_callF, List.getElem?_cons_zero, List.getElem?_cons_succ, List.set_cons_zero, List.set_cons_succ, decide_true, decide_false, Int.reduceEq, Int.reduceLT, Int.reduceLE, decide_eq_true_eq, Bool.not_true, Bool.not_false, if_true, if_false, Bool.false_eq_true, b__law_pick, mem, up3, v_mod hc, List.length_map, ej, set1, ix0 hjr, hp, v_mod h0, v_fdiv hd, set0 hjr]
    rfl
  · have a1 : 0 ≤ s.C[j] % 2147483647 := Int.emod_nonneg _ (by decide)
    have a2 : s.C[j] % 2147483647 < 2147483647 := Int.emod_lt_of_pos _ (by decide)
    have d2 : divOk 2147483647 = true := by decide
    generalize hx : s.C[j] % 2147483647 = x at *
    have a3 : 0 ≤ s.C[j] / 2147483647 % 2147483647 := Int.emod_nonneg _ (by decide)
    have a4 : s.C[j] / 2147483647 % 2147483647 < 2147483647 := Int.emod_lt_of_pos _ (by decide)
    generalize hy : s.C[j] / 2147483647 % 2147483647 = y at *
    have b1 : 0 ≤ (x + 1) * (1299709 * (s.k : Int) + 15485863 + (j : Int)) % 2147483629 := Int.emod_nonneg _ (by decide)
    have b2 : (x + 1) * (1299709 * (s.k : Int) + 15485863 + (j : Int)) % 2147483629 < 2147483629 := Int.emod_lt_of_pos _ (by decide)
    generalize hl : (x + 1) * (1299709 * (s.k : Int) + 15485863 + (j : Int)) % 2147483629 = lo at *
    have b3 : 0 ≤ (y + 3) * (49979687 + 86028121 * (s.k : Int)) % 2147483587 := Int.emod_nonneg _ (by decide)
    have b4 : (y + 3) * (49979687 + 86028121 * (s.k : Int)) % 2147483587 < 2147483587 := Int.emod_lt_of_pos _ (by decide)
    generalize hh : (y + 3) * (49979687 + 86028121 * (s.k : Int)) % 2147483587 = hi at *
    have c1 : 0 ≤ (lo * lo + 32452843 * hi + (s.k : Int)) % 2147483579 := Int.emod_nonneg _ (by decide)
    have c2 : (lo * lo + 32452843 * hi + (s.k : Int)) % 2147483579 < 2147483579 := Int.emod_lt_of_pos _ (by decide)
    generalize hl2 : (lo * lo + 32452843 * hi + (s.k : Int)) % 2147483579 = lo2 at *
    have c3 : 0 ≤ (hi * hi + 67867967 * lo2 + (j : Int)) % 2147483563 := Int.emod_nonneg _ (by decide)
    have c4 : (hi * hi + 67867967 * lo2 + (j : Int)) % 2147483563 < 2147483563 := Int.emod_lt_of_pos _ (by decide)
    generalize hh2 : (hi * hi + 67867967 * lo2 + (j : Int)) % 2147483563 = hi2 at *
    refine ⟨(lo2 * 2147483549 + hi2) % 4611686018427387847 % many, ⟨s.R, s.C, s.k + 1⟩, ?_, Int.emod_nonneg _ (by omega), Int.emod_lt_of_pos _ h0, rfl, ⟨h.len, h.pos, h.few⟩⟩
    simp -implicitDefEqProofs only [x_var, y_var, x_con, x_glob, x_bin, x_neg, x_cmp, x_chain, x_isN, x_notN, x_and, x_and1, x_or, x_or1, x_not, x_ife, x_call, x_callP, x_bi, x_isi, x_listRg, x_ix, x_sl, x_tup, x_lst, x_comp, x_compIf, x_box, x_pop, x_popAt, x_append, x_nil, x_cons, x_seq, x_rng1, x_rng2, x_zip, x_asg, x_setix, x_aug, x_ex, x_if, x_for, x_while, x_ret, x_brk, x_cont, x_bnil, x_bcons, y_rt1, y_rtB, y_bin1, y_bin2, y_cmp1, y_cmp2, y_neg, y_isN, y_notN, y_andT, y_andF, y_orT, y_orF, y_not, y_ifT, y_ifF, y_chain1, y_chain2, y_chainT, y_chainF, y_chain3, y_cons1, y_cons2, y_call, y_callP, y_bi, y_isi, y_ix1, y_ix2, y_tup0, y_tup1, y_tup2, y_tup3, y_tup4, y_lst0, y_lst1, y_lst2, y_lst3, y_lc, y_box, y_pop, y_popAt1, y_popAt2, y_append1, y_append2, y_rtL, y_seq, y_seqT, y_seqL, y_rng21, y_zip1, y_zip2, y_zipT, y_zipL, y_rtE, y_asg, y_set1, y_set2, y_set3, y_aug, y_augA, y_augS, y_ex, y_ifST, y_ifSF, y_for, y_ret, y_nx, y_rt, y_bk, y_ct, y_fnR, y_fnN, y_nm, y_tp, y_tgn, y_tgc, y_tgk, v_add, v_sub, v_eqI, v_eqS, v_eqB, v_neI, v_neS, v_neB, v_lt, v_le, v_gt, v_ge, v_lenT, v_lenL, v_lenF, v_tupL, v_tupT, v_listL, v_listT, v_intI, v_intB, v_max, v_min, v_ixT, v_ixL, v_at0, v_at1, v_at2, y_lst4, y_lst5, y_lst6, y_lst7, y_tup5, y_tup6, y_sl1, y_sl1i, y_sl2, y_sl2i, y_sl3, v_slF, v_slL, v_slT, w_0, w_1, y_part, y_sl1v, y_sl1b, y_sl1n, y_sl2v, y_sl2b, y_sl2n, v_isTT, v_isTI, v_isTB, v_isTS, v_isIT, v_isII, v_isIB, v_isIS, v_isBT, v_isBI, v_isBB, v_isBS, v_isST, v_isSI, v_isSB, v_isSS, v_isN, x_rev, x_join, x_fmt, x_fstr, x_zipS, y_rev, y_join1, y_join2, y_fmt, y_fstr, y_rtS, y_zipS1, y_zipS2, v_revL, x_callF, y_callF, List.getElem?_cons_zero, List.getElem?_cons_succ, List.set_cons_zero, List.set_cons_succ, decide_true, decide_false, Int.reduceEq, Int.reduceLT, Int.reduceLE, decide_eq_true_eq, Bool.not_true, Bool.not_false, if_true, if_false, Bool.false_eq_true, b__law_pick, mem, up3, v_mod hc, List.length_map, ej, set1, ix0 hjr, hp, e1, v_mod (show (0 : Int) < 2147483647 by decide), hx, v_mul (mulOk_l (i := 1299709) (by decide) (by decide)), v_mul (mulOk_l (i := x + 1) (j := 1299709 * (s.k : Int) + 15485863 + (j : Int)) (by omega) (by omega)), v_mod (show (0 : Int) < 2147483629 by decide), hl, v_fdiv d2, hy, v_mul (mulOk_l (i := 86028121) (by decide) (by decide)), v_mul (mulOk_l (i := y + 3) (j := 49979687 + 86028121 * (s.k : Int)) (by omega) (by omega)), v_mod (show (0 : Int) < 2147483587 by decide), hh, v_mul (mulOk_l (i := lo) (j := lo) (by omega) (by omega)), v_mul (mulOk_l (i := 32452843) (by decide) (by decide)), v_mod (show (0 : Int) < 2147483579 by decide), hl2, v_mul (mulOk_l (i := hi) (j := hi) (by omega) (by omega)), v_mul (mulOk_l (i := 67867967) (by decide) (by decide)), v_mod (show (0 : Int) < 2147483563 by decide), hh2, v_mul (mulOk_l (i := lo2) (j := 2147483549) (by omega) (by omega)), v_mod h0, v_mod (show (0 : Int) < 4611686018427387847 by decide)]
    rfl
theorem log_of {i : Int} (h0 : 0 < i) (h1 : i < 2 ^ 64) : i.natAbs.log2 < 9000 := by
  have : i.natAbs.log2 < 64 := (Nat.log2_lt (by omega)).mpr (by omega)
  omega
theorem pick_run {G : List D} {n : Nat} (s : Dk) (h : s.Ok) (hk : s.k < 2 ^ 40) (many : Int) (h0 : 0 < many) (h1 : many < 2 ^ 64) (g : M) :
    ∃ d s', run tab G (n + 1) 3 [.ref 1, .int many] (mem s g) = some (.int d, mem s' g) ∧ 0 ≤ d ∧ d < many ∧ s'.k = s.k + 1 ∧ s'.Ok := by
  rw [run__law_pick]
  exact pick_ok _ _ s h hk many h0 (log_of h0 h1) g
end Lw

namespace Lw
open PySem Pv
theorem cut63 {l : List D} (h : l.length ≤ 63) : cutD l none (some 63) = l := by
  simp only [cutD, sIx]
  have : ¬ ((63 : Int) < 0) := by decide
  simp [this, h]
def bigD : D → D
  | .int c => .int (c * (if 1000000000000000000 ≤ c then 1 else 0))
  | d => d
theorem draws_ok (F : Fn) (G : List D) (ns : List Int) (h : ns.length ≤ 63) :
    ∃ s : Dk, runBody F G f__law_deck [.frz (ns.map .int)] [] = some (.ref 1, mem s []) ∧ s.Ok ∧ s.k = 0 := by
  have e10 : ∀ m : M, bopD m .pow (.int 10) (.int 18) = some (.int 1000000000000000000) := fun m => v_pow (by decide)
  have hm : ∀ (C : List Int) (env : Pv.Env) (m : M), (env[2]? = some none) → env.length = 3 → compL (.nm 2) env (evE F G (.bin .mul (.var 2) (.bi .int (.cons (.cmp .ge (.var 2) (.bin .pow (.con (.int 10)) (.con (.int 18)))) .nil)))) (C.map .int) m = some ((C.map fun c => c * (if 1000000000000000000 ≤ c then 1 else 0)).map .int, m) := by
    intro C env m h2 h3
    match env, h2, h3 with
    | [a, b, none], _, _ =>
    rw [comp_map bigD]
    · rw [List.map_map, List.map_map]; rfl
    · intro x hx
      obtain ⟨c, _, rfl⟩ := List.mem_map.mp hx
      refine ⟨_, y_nm, ?_⟩
      by_cases hc : (1000000000000000000 : Int) ≤ c
      · simp -implicitDefEqProofs only [x_var, y_var, x_con, x_glob, x_bin, x_neg, x_cmp, x_chain, x_isN, x_notN, x_and, x_and1, x_or, x_or1, x_not, x_ife, x_call, x_callP, x_bi, x_isi, x_listRg, x_ix, x_sl, x_tup, x_lst, x_comp, x_compIf, x_box, x_pop, x_popAt, x_append, x_nil, x_cons, x_seq, x_rng1, x_rng2, x_zip, x_asg, x_setix, x_aug, x_ex, x_if, x_for, x_while, x_ret, x_brk, x_cont, x_bnil, x_bcons, y_rt1, y_rtB, y_bin1, y_bin2, y_cmp1, y_cmp2, y_neg, y_isN, y_notN, y_andT, y_andF, y_orT, y_orF, y_not, y_ifT, y_ifF, y_chain1, y_chain2, y_chainT, y_chainF, y_chain3, y_cons1, y_cons2, y_call, y_callP, y_bi, y_isi, y_ix1, y_ix2, y_tup0, y_tup1, y_tup2, y_tup3, y_tup4, y_lst0, y_lst1, y_lst2, y_lst3, y_lc, y_box, y_pop, y_popAt1, y_popAt2, y_append1, y_append2, y_rtL, y_seq, y_seqT, y_seqL, y_rng21, y_zip1, y_zip2, y_zipT, y_zipL, y_rtE, y_asg, y_set1, y_set2, y_set3, y_aug, y_augA, y_augS, y_ex, y_ifST, y_ifSF, y_for, y_ret, y_nx, y_rt, y_bk, y_ct, y_fnR, y_fnN, y_nm, y_tp, y_tgn, y_tgc, y_tgk, v_add, v_sub, v_eqI, v_eqS, v_eqB, v_neI, v_neS, v_neB, v_lt, v_le, v_gt, v_ge, v_lenT, v_lenL, v_lenF, v_tupL, v_tupT, v_listL, v_listT, v_intI, v_intB, v_max, v_min, v_ixT, v_ixL, v_at0, v_at1, v_at2, y_lst4, y_lst5, y_lst6, y_lst7, y_tup5, y_tup6, y_sl1, y_sl1i, y_sl2, y_sl2i, y_sl3, v_slF, v_slL, v_slT, w_0, w_1, y_part, y_sl1v, y_sl1b, y_sl1n, y_sl2v, y_sl2b, y_sl2n, v_isTT, v_isTI, v_isTB, v_isTS, v_isIT, v_isII, v_isIB, v_isIS, v_isBT, v_isBI, v_isBB, v_isBS, v_isST, v_isSI, v_isSB, v_isSS, v_isN, x_rev, x_join, x_fmt, x_fstr, x_zipS, y_rev, y_join1, y_join2, y_fmt, y_fstr, y_rtS, y_zipS1, y_zipS2, v_revL, x_callF, y_callF, List.getElem?_cons_zero, List.getElem?_cons_succ, List.set_cons_zero, List.set_cons_succ, decide_true, decide_false, Int.reduceEq, Int.reduceLT, Int.reduceLE, decide_eq_true_eq, Bool.not_true, Bool.not_false, if_true, if_false, Bool.false_eq_true, e10, hc, v_mul (show mulOk c 1 = true by simp [mulOk, small]), bigD]
      · simp -implicitDefEqProofs only [x_var, y_var, x_con, x_glob, x_bin, x_neg, x_cmp, x_chain, x_isN, x_notN, x_and, x_and1, x_or, x_or1, x_not, x_ife, x_call, x_callP, x_bi, x_isi, x_listRg, x_ix, x_sl, x_tup, x_lst, x_comp, x_compIf, x_box, x_pop, x_popAt, x_append, x_nil, x_cons, x_seq, x_rng1, x_rng2, x_zip, x_asg, x_setix, x_aug, x_ex, x_if, x_for, x_while, x_ret, x_brk, x_cont, x_bnil, x_bcons, y_rt1, y_rtB, y_bin1, y_bin2, y_cmp1, y_cmp2, y_neg, y_isN, y_notN, y_andT, y_andF, y_orT, y_orF, y_not, y_ifT, y_ifF, y_chain1, y_chain2, y_chainT, y_chainF, y_chain3, y_cons1, y_cons2, y_call, y_callP, y_bi, y_isi, y_ix1, y_ix2, y_tup0, y_tup1, y_tup2, y_tup3, y_tup4, y_lst0, y_lst1, y_lst2, y_lst3, y_lc, y_box, y_pop, y_popAt1, y_popAt2, y_append1, y_append2, y_rtL, y_seq, y_seqT, y_seqL, y_rng21, y_zip1, y_zip2, y_zipT, y_zipL, y_rtE, y_asg, y_set1, y_set2, y_set3, y_aug, y_augA, y_augS, y_ex, y_ifST, y_ifSF, y_for, y_ret, y_nx, y_rt, y_bk, y_ct, y_fnR, y_fnN, y_nm, y_tp, y_tgn, y_tgc, y_tgk, v_add, v_sub, v_eqI, v_eqS, v_eqB, v_neI, v_neS, v_neB, v_lt, v_le, v_gt, v_ge, v_lenT, v_lenL, v_lenF, v_tupL, v_tupT, v_listL, v_listT, v_intI, v_intB, v_max, v_min, v_ixT, v_ixL, v_at0, v_at1, v_at2, y_lst4, y_lst5, y_lst6, y_lst7, y_tup5, y_tup6, y_sl1, y_sl1i, y_sl2, y_sl2i, y_sl3, v_slF, v_slL, v_slT, w_0, w_1, y_part, y_sl1v, y_sl1b, y_sl1n, y_sl2v, y_sl2b, y_sl2n, v_isTT, v_isTI, v_isTB, v_isTS, v_isIT, v_isII, v_isIB, v_isIS, v_isBT, v_isBI, v_isBB, v_isBS, v_isST, v_isSI, v_isSB, v_isSS, v_isN, x_rev, x_join, x_fmt, x_fstr, x_zipS, y_rev, y_join1, y_join2, y_fmt, y_fstr, y_rtS, y_zipS1, y_zipS2, v_revL, x_callF, y_callF, List.getElem?_cons_zero, List.getElem?_cons_succ, List.set_cons_zero, List.set_cons_succ, decide_true, decide_false, Int.reduceEq, Int.reduceLT, Int.reduceLE, decide_eq_true_eq, Bool.not_true, Bool.not_false, if_true, if_false, Bool.false_eq_true, e10, hc, v_mul (show mulOk c 0 = true by simp [mulOk, small]), bigD]
  have e1 : ∀ x, bopD [] .mul (.lst [.int 0]) (.int (if x = true then 1 else 0)) = some (.lst (if x = true then [.int 0] else [])) := by intro x; cases x <;> rfl
  rw [r__law_deck]
  cases ns with
  | nil =>
    refine ⟨⟨[0], [0], 0⟩, ?_, ⟨rfl, by decide, by decide⟩, rfl⟩
    have e2 := hm [0]
    rfl
  | cons n ns =>
    refine ⟨⟨(n :: ns).map fun c => c * (if 1000000000000000000 ≤ c then 1 else 0), n :: ns, 0⟩, ?_, ⟨by simp, by simp, h⟩, rfl⟩
    have e2 := hm (n :: ns)
    have hl : ((n :: ns).map D.int).length ≤ 63 := by simpa using h
    have hl' : ((n :: ns).map D.int).length ≤ lim := lim10 (by omega)
    have e3 : (((((n :: ns).map D.int).length : Nat) : Int) = 0) = False := by simp; omega
    have e4 : ∀ m : M, bopD m .mul (.lst [.int 0]) (.int 0) = some (.lst []) := fun m => rfl
    simp -implicitDefEqProofs only [x_var, y_var, x_con, x_glob, x_bin, x_neg, x_cmp, x_chain, x_isN, x_notN, x_and, x_and1, x_or, x_or1, x_not, x_ife, x_call, x_callP, x_bi, x_isi, x_listRg, x_ix, x_sl, x_tup, x_lst, x_comp, x_compIf, x_box, x_pop, x_popAt, x_append, x_nil, x_cons, x_seq, x_rng1, x_rng2, x_zip, x_asg, x_setix, x_aug, x_ex, x_if, x_for, x_while, x_ret, x_brk, x_cont, x_bnil, x_bcons, y_rt1, y_rtB, y_bin1, y_bin2, y_cmp1, y_cmp2, y_neg, y_isN, y_notN, y_andT, y_andF, y_orT, y_orF, y_not, y_ifT, y_ifF, y_chain1, y_chain2, y_chainT, y_chainF, y_chain3, y_cons1, y_cons2, y_call, y_callP, y_bi, y_isi, y_ix1, y_ix2, y_tup0, y_tup1, y_tup2, y_tup3, y_tup4, y_lst0, y_lst1, y_lst2, y_lst3, y_lc, y_box, y_pop, y_popAt1, y_popAt2, y_append1, y_append2, y_rtL, y_seq, y_seqT, y_seqL, y_rng21, y_zip1, y_zip2, y_zipT, y_zipL, y_rtE, y_asg, y_set1, y_set2, y_set3, y_aug, y_augA, y_augS, y_ex, y_ifST, y_ifSF, y_for, y_ret, y_nx, y_rt, y_bk, y_ct, y_fnR, y_fnN, y_nm, y_tp, y_tgn, y_tgc, y_tgk, v_add, v_sub, v_eqI, v_eqS, v_eqB, v_neI, v_neS, v_neB, v_lt, v_le, v_gt, v_ge, v_lenT, v_lenL, v_lenF, v_tupL, v_tupT, v_listL, v_listT, v_intI, v_intB, v_max, v_min, v_ixT, v_ixL, v_at0, v_at1, v_at2, y_lst4, y_lst5, y_lst6, y_lst7, y_tup5, y_tup6, y_sl1, y_sl1i, y_sl2, y_sl2i, y_sl3, v_slF, v_slL, v_slT, w_0, w_1, y_part, y_sl1v, y_sl1b, y_sl1n, y_sl2v, y_sl2b, y_sl2n, v_isTT, v_isTI, v_isTB, v_isTS, v_isIT, v_isII, v_isIB, v_isIS, v_isBT, v_isBI, v_isBB, v_isBS, v_isST, v_isSI, v_isSB, v_isSS, v_isN, x_rev, x_join, x_fmt, x_fstr, x_zipS, y_rev, y_join1, y_join2, y_fmt, y_fstr, y_rtS, y_zipS1, y_zipS2, v_revL, x_callF, y_callF, List.getElem?_cons_zero, List.getElem?_cons_succ, List.set_cons_zero, List.set_cons_succ, decide_true, decide_false, Int.reduceEq, Int.reduceLT, Int.reduceLE, decide_eq_true_eq, Bool.not_true, Bool.not_false, if_true, if_false, Bool.false_eq_true, b__law_deck, cut63 hl, e3, e4, v_catL (show ((n :: ns).map D.int).length + ([] : List D).length ≤ lim from hl'), List.append_nil, y_comp hl']
    rw [e2 _ _ (by rfl) (by rfl)]
    simp -implicitDefEqProofs only [x_var, y_var, x_con, x_glob, x_bin, x_neg, x_cmp, x_chain, x_isN, x_notN, x_and, x_and1, x_or, x_or1, x_not, x_ife, x_call, x_callP, x_bi, x_isi, x_listRg, x_ix, x_sl, x_tup, x_lst, x_comp, x_compIf, x_box, x_pop, x_popAt, x_append, x_nil, x_cons, x_seq, x_rng1, x_rng2, x_zip, x_asg, x_setix, x_aug, x_ex, x_if, x_for, x_while, x_ret, x_brk, x_cont, x_bnil, x_bcons, y_rt1, y_rtB, y_bin1, y_bin2, y_cmp1, y_cmp2, y_neg, y_isN, y_notN, y_andT, y_andF, y_orT, y_orF, y_not, y_ifT, y_ifF, y_chain1, y_chain2, y_chainT, y_chainF, y_chain3, y_cons1, y_cons2, y_call, y_callP, y_bi, y_isi, y_ix1, y_ix2, y_tup0, y_tup1, y_tup2, y_tup3, y_tup4, y_lst0, y_lst1, y_lst2, y_lst3, y_lc, y_box, y_pop, y_popAt1, y_popAt2, y_append1, y_append2, y_rtL, y_seq, y_seqT, y_seqL, y_rng21, y_zip1, y_zip2, y_zipT, y_zipL, y_rtE, y_asg, y_set1, y_set2, y_set3, y_aug, y_augA, y_augS, y_ex, y_ifST, y_ifSF, y_for, y_ret, y_nx, y_rt, y_bk, y_ct, y_fnR, y_fnN, y_nm, y_tp, y_tgn, y_tgc, y_tgk, v_add, v_sub, v_eqI, v_eqS, v_eqB, v_neI, v_neS, v_neB, v_lt, v_le, v_gt, v_ge, v_lenT, v_lenL, v_lenF, v_tupL, v_tupT, v_listL, v_listT, v_intI, v_intB, v_max, v_min, v_ixT, v_ixL, v_at0, v_at1, v_at2, y_lst4, y_lst5, y_lst6, y_lst7, y_tup5, y_tup6, y_sl1, y_sl1i, y_sl2, y_sl2i, y_sl3, v_slF, v_slL, v_slT, w_0, w_1, y_part, y_sl1v, y_sl1b, y_sl1n, y_sl2v, y_sl2b, y_sl2n, v_isTT, v_isTI, v_isTB, v_isTS, v_isIT, v_isII, v_isIB, v_isIS, v_isBT, v_isBI, v_isBB, v_isBS, v_isST, v_isSI, v_isSB, v_isSS, v_isN, x_rev, x_join, x_fmt, x_fstr, x_zipS, y_rev, y_join1, y_join2, y_fmt, y_fstr, y_rtS, y_zipS1, y_zipS2, v_revL, x_callF, y_callF, List.getElem?_cons_zero, List.getElem?_cons_succ, List.set_cons_zero, List.set_cons_succ, decide_true, decide_false, Int.reduceEq, Int.reduceLT, Int.reduceLE, decide_eq_true_eq, Bool.not_true, Bool.not_false, if_true, if_false, Bool.false_eq_true]
    rfl
end Lw

namespace Lw
open PySem Pv
/-! data: flat things and tuples, at most n deep -/
def okN : Nat → D → Bool
  | _, .non => true
  | _, .bl _ => true
  | _, .int _ => true
  | n, .str x => PyData.strOk x && decide (x.length ≤ 1000 + n)
  | n + 1, .tup xs => decide (xs.length ≤ 1000) && xs.all (okN n)
  | _, _ => false
theorem okN_tup {n : Nat} {xs : List D} : okN (n + 1) (.tup xs) = true ↔ xs.length ≤ 1000 ∧ ∀ x ∈ xs, okN n x = true := by
  rw [okN, Bool.and_eq_true, decide_eq_true_eq, List.all_eq_true]
theorem okN_up : ∀ {n : Nat} {x : D}, okN n x = true → okN (n + 1) x = true
  | 0, .non, _ | 0, .bl _, _ | 0, .int _, _ | _ + 1, .non, _ | _ + 1, .bl _, _ | _ + 1, .int _, _ => rfl
  | 0, .str _, h | _ + 1, .str _, h => by simp [okN] at h ⊢; exact ⟨h.1, by omega⟩
  | 0, .tup _, h => by simp [okN] at h
  | n + 1, .tup xs, h => by
    rw [okN_tup] at h ⊢
    exact ⟨h.1, fun x hx => okN_up (h.2 x hx)⟩
  | 0, .lst _, h | 0, .frz _, h | 0, .ref _, h | _ + 1, .lst _, h | _ + 1, .frz _, h | _ + 1, .ref _, h => by simp [okN] at h
theorem okN_le {n k : Nat} {x : D} (h : okN n x = true) (hk : n ≤ k) : okN k x = true := by
  obtain ⟨d, rfl⟩ := Nat.exists_eq_add_of_le hk
  induction d with
  | zero => exact h
  | succ d ih => exact okN_up (ih (by omega))
theorem okN_pure : ∀ {n : Nat} {x : D}, okN n x = true → pure_ x = true ∧ (toP x).canLay0 = true
  | _, .non, _ => ⟨rfl, by simp [toP, PyData.canLay0]⟩
  | _, .bl _, _ => ⟨rfl, by simp [toP, PyData.canLay0]⟩
  | _, .int _, _ => ⟨rfl, by simp [toP, PyData.canLay0]⟩
  | 0, .str x, h | _ + 1, .str x, h => ⟨rfl, by simp [okN] at h; simpa [toP, PyData.canLay0] using h.1⟩
  | 0, .tup _, h => by simp [okN] at h
  | n + 1, .tup xs, h => by
    have h' := (okN_tup.mp h).2
    have q : ∀ l : List D, (∀ x ∈ l, okN n x = true) → pures l = true ∧ PyData.canLayAll0 (toPs l) = true := by
      intro l
      induction l with
      | nil => intro _; exact ⟨rfl, by simp [toPs, PyData.canLayAll0]⟩
      | cons x r ih =>
        intro hl
        have a := okN_pure (hl x List.mem_cons_self)
        have b := ih fun y hy => hl y (List.mem_cons_of_mem _ hy)
        exact ⟨by rw [pures, a.1, b.1]; rfl, by rw [toPs, PyData.canLayAll0, a.2, b.2]; rfl⟩
    have q := q xs h'
    exact ⟨by rw [pure_]; exact q.1, by rw [toP, PyData.canLay0]; exact q.2⟩
  | 0, .lst _, h | 0, .frz _, h | 0, .ref _, h | _ + 1, .lst _, h | _ + 1, .frz _, h | _ + 1, .ref _, h => by simp [okN] at h
/-! how many things -/
mutual
def sz : D → Nat
  | .tup xs => 1 + szs xs
  | _ => 1
def szs : List D → Nat
  | [] => 0
  | x :: r => sz x + szs r
end
theorem sz_pos (x : D) : 0 < sz x := by cases x <;> simp [sz] <;> omega
theorem szs_app {l r : List D} : szs (l ++ r) = szs l + szs r := by
  induction l with
  | nil => simp [szs]
  | cons x l ih => simp [szs, ih]; omega
theorem szs_len (l : List D) : l.length ≤ szs l := by
  induction l with
  | nil => simp [szs]
  | cons x l ih => have := sz_pos x; simp [szs]; omega
theorem szs_bound {l : List D} {b : Nat} (h : ∀ x ∈ l, sz x ≤ b) : szs l ≤ l.length * b := by
  induction l with
  | nil => simp [szs]
  | cons x l ih =>
    have a := h x List.mem_cons_self
    have c := ih fun y hy => h y (List.mem_cons_of_mem _ hy)
    simp only [szs, List.length_cons, Nat.succ_mul]
    omega
theorem sz_mem {l : List D} {x : D} (h : x ∈ l) : sz x ≤ szs l := by
  induction l with
  | nil => cases h
  | cons y l ih =>
    simp only [szs]
    rcases List.mem_cons.mp h with rfl | h
    · omega
    · have := ih h; omega
theorem at_any {P : D → Prop} {l : List D} (h : ∀ x ∈ l, P x) {d : Int} (h0 : 0 ≤ d) (h1 : d < l.length) : ∃ r, atD l d = some r ∧ P r := by
  obtain ⟨j, rfl⟩ := Int.eq_ofNat_of_zero_le h0
  have hj : j < l.length := by omega
  exact ⟨l[j], atD_nat (by simp [hj]), h _ (List.getElem_mem hj)⟩
theorem cut_mem {xs : List D} {lo hi : Option Int} {x : D} (h : x ∈ cutD xs lo hi) : x ∈ xs := List.mem_of_mem_drop (List.mem_of_mem_take h)
theorem cut_len {xs : List D} {lo hi : Option Int} : (cutD xs lo hi).length ≤ xs.length := by
  unfold cutD
  rw [List.length_take, List.length_drop]
  omega
/-- a list against the empty one -/
theorem ne_nilR {m : M} {l : Nat} {xs : List D} (hl : m[l]? = some (.lst xs)) (h : pures xs = true ∧ PyData.canLayAll0 (toPs xs) = true) : cmpD m .ne (.ref l) (.lst []) = some (!xs.isEmpty) := by
  have e : eqOk (.lst xs) (.lst []) = true := by
    have d : (PyData.list []).depth ≤ 64 := by decide
    have e1 : pure_ (.lst []) = true := rfl
    have e2 : (toP (.lst [])).canLay0 = true := by simp only [toP, toPs, PyData.canLay0, PyData.canLayAll0]
    have e3 : pure_ (.lst xs) = true := by rw [pure_]; exact h.1
    have e4 : (toP (.lst xs)).canLay0 = true := by rw [toP, PyData.canLay0]; exact h.2
    unfold eqOk
    rw [e1, e2, e3, e4]
    exact decide_eq_true (Nat.le_trans (Nat.min_le_right _ _) d)
  have ed : deref m (.ref l) = .lst xs := by simp only [deref, hl]
  show (eqD m (.ref l) (.lst [])).map (!·) = _
  have : eqD m (.ref l) (.lst []) = if eqOk (deref m (.ref l)) (deref m (.lst [])) = true then some (PyData.eqv (toP (deref m (.ref l))) (toP (deref m (.lst [])))) else none := rfl
  rw [this, ed]
  show (if eqOk (.lst xs) (.lst []) = true then some (PyData.eqv (toP (.lst xs)) (toP (.lst []))) else none).map (!·) = _
  rw [if_pos e]
  cases xs with
  | nil => rfl
  | cons x r => simp only [toP, toPs, PyData.eqv, PyData.eqvAll]; rfl
theorem eq_nilT {n : Nat} {l : List D} (h : okN n (.tup l) = true) {m : M} : cmpD m .eq (.tup l) (.tup []) = some l.isEmpty := by
  have q := okN_pure h
  have e : eqOk (.tup l) (.tup []) = true := by
    have d : (PyData.tuple []).depth ≤ 64 := by decide
    have e1 : pure_ (.tup []) = true := rfl
    have e2 : (toP (.tup [])).canLay0 = true := by simp only [toP, toPs, PyData.canLay0, PyData.canLayAll0]
    unfold eqOk
    rw [q.1, q.2, e1, e2]
    exact decide_eq_true (Nat.le_trans (Nat.min_le_right _ _) d)
  show (if eqOk (.tup l) (.tup []) = true then some (PyData.eqv (toP (.tup l)) (toP (.tup []))) else none) = _
  rw [if_pos e]
  cases l with
  | nil => rfl
  | cons x r => simp only [toP, toPs, PyData.eqv, PyData.eqvAll]; rfl
end Lw

namespace Lw
open PySem Pv
/-! kinds as written things -/
mutual
inductive Kd where
  | truth
  | num (i : Bool) (b : Nat)
  | hole (s : Str)
  | rcd (v : Bool) (ps : Ps)
  | row (n : Nat) (k : Kd)
  | wrap (b : Bool) (k : Kd)
  | use (s : Str) (fs : Ks)
inductive Ps where
  | nil
  | cons (s : Str) (k : Kd) (r : Ps)
inductive Ks where
  | nil
  | cons (k : Kd) (r : Ks)
end
def wNum (i : Bool) : Str := if i then "int" else "nat"
def wRec (v : Bool) : Str := if v then "variant" else "record"
def wWrap (b : Bool) : Str := if b then "box" else "maybe"
mutual
def toK : Kd → D
  | .truth => .tup [.str "truth"]
  | .num i b => .tup [.str (wNum i), .int b]
  | .hole s => .tup [.str "hole", .str s]
  | .rcd v ps => .tup [.str (wRec v), .tup (psD ps)]
  | .row n k => .tup [.str "row", .int n, toK k]
  | .wrap b k => .tup [.str (wWrap b), toK k]
  | .use s fs => .tup [.str "use", .str s, .tup (ksD fs)]
def psD : Ps → List D
  | .nil => []
  | .cons s k r => .tup [.str s, toK k] :: psD r
def ksD : Ks → List D
  | .nil => []
  | .cons k r => toK k :: ksD r
end
def sN (n : Nat) : Str := toString (n : Int)
mutual
def txt : Kd → Str
  | .truth => "truth"
  | .num i b => wNum i ++ sN b
  | .hole s => "?" ++ s
  | .rcd v ps => wRec v ++ "(" ++ Str.join ", " (ptx ps) ++ ")"
  | .row n k => "row " ++ sN n ++ " " ++ txt k
  | .wrap b k => wWrap b ++ " " ++ txt k
  | .use s fs => s ++ "[" ++ Str.join ", " (ktx fs) ++ "]"
def ptx : Ps → List Str
  | .nil => []
  | .cons s k r => (s ++ " " ++ txt k) :: ptx r
def ktx : Ks → List Str
  | .nil => []
  | .cons k r => txt k :: ktx r
end
abbrev tl (x : Str) : List Nat := x.cps.toList
theorem tl_app {x y : Str} : tl (x ++ y) = tl x ++ tl y := by
  show (x.cps ++ y.cps).toList = _
  rw [Array.toList_append]
theorem tl_inj {x y : Str} (h : tl x = tl y) : x = y := by
  obtain ⟨a⟩ := x
  obtain ⟨b⟩ := y
  have : a = b := Array.toList_inj.mp h
  rw [this]
def jn : List (List Nat) → List Nat
  | [] => []
  | [x] => x
  | x :: y :: r => x ++ 44 :: 32 :: jn (y :: r)
theorem tl_join : ∀ l : List Str, tl (Str.join ", " l) = jn (l.map tl)
  | [] => by decide +kernel
  | [x] => rfl
  | x :: y :: r => by
    have e : tl (", " : Str) = [44, 32] := by decide +kernel
    have ih := tl_join (y :: r)
    have ej : Str.join ", " (x :: y :: r) = x ++ ", " ++ Str.join ", " (y :: r) := by rw [Str.join]; simp
    rw [ej, tl_app, tl_app, e, ih]
    simp [jn]
def dg (n : Nat) : List Nat := if n < 10 then [48 + n] else [48 + n / 10, 48 + n % 10]
theorem tl_sN : ∀ n, n < 100 → tl (sN n) = dg n := by decide +kernel
/-! what a name is -/
def ltr (c : Nat) : Bool := decide (97 ≤ c) && decide (c ≤ 122)
def nmOk (s : Str) : Bool := (tl s).all ltr && decide (0 < s.length) && decide (s.length ≤ 13)
mutual
def wf : Kd → Bool
  | .truth => true
  | .num _ b => decide (b < 100)
  | .hole s => nmOk s
  | .rcd _ ps => wfp ps
  | .row n k => decide (n < 100) && wf k
  | .wrap _ k => wf k
  | .use s fs => nmOk s && wfk fs
def wfp : Ps → Bool
  | .nil => true
  | .cons s k r => nmOk s && wf k && wfp r
def wfk : Ks → Bool
  | .nil => true
  | .cons k r => wf k && wfk r
end
def tm : List Nat → Bool
  | [] => true
  | c :: _ => decide (c = 41) || decide (c = 44) || decide (c = 93)
/-- letters, then something else -/
def nl : List Nat → Bool
  | [] => true
  | c :: _ => !ltr c
theorem split_l : ∀ {a b x y : List Nat}, a.all ltr = true → b.all ltr = true → nl x = true → nl y = true → a ++ x = b ++ y → a = b ∧ x = y
  | [], [], x, y, _, _, _, _, h => ⟨rfl, h⟩
  | [], c :: b, x, y, _, hb, hx, _, h => by
    simp only [List.nil_append, List.cons_append] at h
    subst h
    simp only [nl, Bool.not_eq_true'] at hx
    simp [hx] at hb
  | c :: a, [], x, y, ha, _, _, hy, h => by
    simp only [List.nil_append, List.cons_append] at h
    subst h
    simp only [nl, Bool.not_eq_true'] at hy
    simp [hy] at ha
  | c :: a, d :: b, x, y, ha, hb, hx, hy, h => by
    simp only [List.cons_append, List.cons.injEq] at h
    obtain ⟨rfl, h⟩ := h
    simp only [List.all_cons, Bool.and_eq_true] at ha hb
    obtain ⟨rfl, e⟩ := split_l ha.2 hb.2 hx hy h
    exact ⟨rfl, e⟩
def dgt (c : Nat) : Bool := decide (48 ≤ c) && decide (c ≤ 57)
def nd : List Nat → Bool
  | [] => true
  | c :: _ => !dgt c
theorem split_d {n m : Nat} (hn : n < 100) (hm : m < 100) {x y : List Nat} (hx : nd x = true) (hy : nd y = true) (h : dg n ++ x = dg m ++ y) : n = m ∧ x = y := by
  have bad : ∀ {c : Nat} {z : List Nat}, nd (c :: z) = true → 48 ≤ c → c ≤ 57 → False := by
    intro c z h1 h2 h3
    simp [nd, dgt, h2, h3] at h1
  unfold dg at h
  split at h <;> split at h
  · simp only [List.cons_append, List.nil_append, List.cons.injEq] at h
    exact ⟨by omega, h.2⟩
  · simp only [List.cons_append, List.nil_append, List.cons.injEq] at h
    rw [h.2] at hx
    exact (bad hx (by omega) (by omega)).elim
  · simp only [List.cons_append, List.nil_append, List.cons.injEq] at h
    rw [← h.2] at hy
    exact (bad hy (by omega) (by omega)).elim
  · simp only [List.cons_append, List.nil_append, List.cons.injEq] at h
    refine ⟨by omega, h.2.2⟩
/-- the letters at the beginning, what comes then -/
def bg : Kd → List Nat
  | .truth => tl "truth"
  | .num i _ => tl (wNum i)
  | .hole _ => []
  | .rcd v _ => tl (wRec v)
  | .row _ _ => tl "row"
  | .wrap b _ => tl (wWrap b)
  | .use s _ => tl s
def rs : Kd → List Nat
  | .truth => []
  | .num _ b => dg b
  | .hole s => 63 :: tl s
  | .rcd _ ps => 40 :: (jn ((ptx ps).map tl) ++ [41])
  | .row n k => 32 :: (dg n ++ 32 :: tl (txt k))
  | .wrap _ k => 32 :: tl (txt k)
  | .use _ fs => 91 :: (jn ((ktx fs).map tl) ++ [93])
theorem lit1 : tl "(" = [40] ∧ tl ")" = [41] ∧ tl "[" = [91] ∧ tl "]" = [93] ∧ tl " " = [32] ∧ tl "?" = [63] ∧ tl "row " = tl "row" ++ [32] := by decide +kernel
theorem txt_eq : ∀ {k : Kd}, wf k = true → tl (txt k) = bg k ++ rs k
  | .truth, _ => by simp [txt, bg, rs]
  | .num i b, h => by simp [txt, bg, rs, tl_app, tl_sN b (by simpa [wf] using h)]
  | .hole s, _ => by simp [txt, bg, rs, tl_app, lit1]
  | .rcd v ps, _ => by simp [txt, bg, rs, tl_app, lit1, tl_join]
  | .row n k, h => by
    simp only [wf, Bool.and_eq_true, decide_eq_true_eq] at h
    simp [txt, bg, rs, tl_app, lit1, tl_sN n h.1]
  | .wrap b k, _ => by simp [txt, bg, rs, tl_app, lit1]
  | .use s fs, _ => by simp [txt, bg, rs, tl_app, lit1, tl_join]
theorem w_ltr : (tl "truth").all ltr = true ∧ (tl (wNum true)).all ltr = true ∧ (tl (wNum false)).all ltr = true ∧ (tl (wRec true)).all ltr = true ∧ (tl (wRec false)).all ltr = true ∧ (tl "row").all ltr = true ∧ (tl (wWrap true)).all ltr = true ∧ (tl (wWrap false)).all ltr = true := by decide +kernel
theorem w_non : tl "truth" ≠ [] ∧ tl (wNum true) ≠ [] ∧ tl (wNum false) ≠ [] ∧ tl (wRec true) ≠ [] ∧ tl (wRec false) ≠ [] ∧ tl "row" ≠ [] ∧ tl (wWrap true) ≠ [] ∧ tl (wWrap false) ≠ [] := by decide +kernel
theorem bg_ok {k : Kd} (h : wf k = true) : (bg k).all ltr = true := by
  cases k with
  | truth => exact w_ltr.1
  | num i b => cases i; exact w_ltr.2.2.1; exact w_ltr.2.1
  | hole s => rfl
  | rcd v ps => cases v; exact w_ltr.2.2.2.2.1; exact w_ltr.2.2.2.1
  | row n k => exact w_ltr.2.2.2.2.2.1
  | wrap b k => cases b; exact w_ltr.2.2.2.2.2.2.2; exact w_ltr.2.2.2.2.2.2.1
  | use s fs =>
    simp only [wf, nmOk, Bool.and_eq_true] at h
    exact h.1.1.1
theorem dg_hd (n : Nat) (h : n < 100) : ∃ c z, dg n = c :: z ∧ 48 ≤ c ∧ c ≤ 57 := by
  unfold dg
  split
  · exact ⟨_, _, rfl, by omega, by omega⟩
  · exact ⟨_, _, rfl, by omega, by omega⟩
theorem tm_nl {r : List Nat} (h : tm r = true) : nl r = true := by
  cases r with
  | nil => rfl
  | cons c r =>
    simp only [tm, Bool.or_eq_true, decide_eq_true_eq] at h
    rcases h with (rfl | rfl) | rfl <;> rfl
theorem tm_nd {r : List Nat} (h : tm r = true) : nd r = true := by
  cases r with
  | nil => rfl
  | cons c r =>
    simp only [tm, Bool.or_eq_true, decide_eq_true_eq] at h
    rcases h with (rfl | rfl) | rfl <;> rfl
theorem rs_nl {k : Kd} (h : wf k = true) {r : List Nat} (hr : tm r = true) : nl (rs k ++ r) = true := by
  cases k with
  | truth => exact tm_nl hr
  | num i b =>
    obtain ⟨c, z, e, h1, h2⟩ := dg_hd b (by simpa [wf] using h)
    simp only [rs, e, List.cons_append, nl, ltr]
    have : ¬ 97 ≤ c := by omega
    simp [this]
  | hole s => rfl
  | rcd v ps => rfl
  | row n k => rfl
  | wrap b k => rfl
  | use s fs => rfl
/-- the class of what comes behind the letters -/
def cls : List Nat → Nat
  | [] => 0
  | c :: _ => if c = 41 ∨ c = 44 ∨ c = 93 then 0 else if dgt c then 1 else if c = 63 then 2 else if c = 40 then 3 else if c = 32 then 4 else if c = 91 then 5 else 6
def cl : Kd → Nat
  | .truth => 0
  | .num _ _ => 1
  | .hole _ => 2
  | .rcd _ _ => 3
  | .row _ _ => 4
  | .wrap _ _ => 4
  | .use _ _ => 5
theorem cls_rs {k : Kd} (h : wf k = true) {r : List Nat} (hr : tm r = true) : cls (rs k ++ r) = cl k := by
  cases k with
  | truth =>
    cases r with
    | nil => rfl
    | cons c r =>
      simp only [tm, Bool.or_eq_true, decide_eq_true_eq] at hr
      rcases hr with (rfl | rfl) | rfl <;> rfl
  | num i b =>
    obtain ⟨c, z, e, h1, h2⟩ := dg_hd b (by simpa [wf] using h)
    simp only [rs, e, List.cons_append, cls, cl]
    have a1 : ¬ (c = 41 ∨ c = 44 ∨ c = 93) := by omega
    have a2 : dgt c = true := by simp [dgt, h1, h2]
    simp [a1, a2]
  | hole s => rfl
  | rcd v ps => rfl
  | row n k => rfl
  | wrap b k => rfl
  | use s fs => rfl
theorem w_ne : tl "row" ≠ tl (wWrap true) ∧ tl "row" ≠ tl (wWrap false) ∧ tl (wWrap true) ≠ tl (wWrap false) ∧ tl (wNum true) ≠ tl (wNum false) ∧ tl (wRec true) ≠ tl (wRec false) := by decide +kernel
theorem nm_all {s : Str} (h : nmOk s = true) : (tl s).all ltr = true := by
  simp only [nmOk, Bool.and_eq_true] at h
  exact h.1.1
theorem nm_ne {s : Str} (h : nmOk s = true) : ∃ c z, tl s = c :: z ∧ ltr c = true := by
  have h1 := nm_all h
  simp only [nmOk, Bool.and_eq_true, decide_eq_true_eq] at h
  have : 0 < (tl s).length := by have := h.1.2; simpa [Str.length] using this
  match e : tl s, this with
  | c :: z, _ => rw [e] at h1; simp only [List.all_cons, Bool.and_eq_true] at h1; exact ⟨c, z, rfl, h1.1⟩
theorem jn_cons {x : List Nat} {l : List (List Nat)} {e : List Nat} : jn (x :: l) ++ e = x ++ (match l with | [] => e | y :: r => 44 :: 32 :: (jn (y :: r) ++ e)) := by
  cases l with
  | nil => rfl
  | cons y r => simp [jn]
theorem no_end {k : Kd} (h : wf k = true) {x r : List Nat} : tl (txt k) ++ x ≠ 93 :: r := by
  intro e
  rw [txt_eq h] at e
  have b0 := bg_ok h
  cases hb : bg k with
  | nil =>
    cases k with
    | hole s => simp [bg, rs] at e
    | truth => exact absurd hb w_non.1
    | num i b => cases i; exact absurd hb w_non.2.2.1; exact absurd hb w_non.2.1
    | rcd v ps => cases v; exact absurd hb w_non.2.2.2.2.1; exact absurd hb w_non.2.2.2.1
    | row n k => exact absurd hb w_non.2.2.2.2.2.1
    | wrap c k => cases c; exact absurd hb w_non.2.2.2.2.2.2.2; exact absurd hb w_non.2.2.2.2.2.2.1
    | use s fs =>
      simp only [wf, Bool.and_eq_true] at h
      obtain ⟨c, z, e2, _⟩ := nm_ne h.1
      have hb : tl s = [] := hb
      rw [hb] at e2
      cases e2
  | cons c z =>
    rw [hb] at e b0
    simp only [List.cons_append, List.cons.injEq] at e
    rw [e.1] at b0
    simp [ltr] at b0
mutual
theorem inj : ∀ (k k' : Kd) {r r' : List Nat}, wf k = true → wf k' = true → tm r = true → tm r' = true → tl (txt k) ++ r = tl (txt k') ++ r' → k = k' ∧ r = r'
  | k, k', r, r', hk, hk', hr, hr', h => by
    have h0 := h
    rw [txt_eq hk, txt_eq hk', List.append_assoc, List.append_assoc] at h
    obtain ⟨e1, e2⟩ := split_l (bg_ok hk) (bg_ok hk') (rs_nl hk hr) (rs_nl hk' hr') h
    have ec : cl k = cl k' := by rw [← cls_rs hk hr, ← cls_rs hk' hr', e2]
    match k, k', hk, hk', e1, e2, ec with
    | .truth, .truth, _, _, _, e2, _ => exact ⟨rfl, e2⟩
    | .num i b, .num i' b', hk, hk', e1, e2, _ =>
      obtain ⟨rfl, e⟩ := split_d (by simpa [wf] using hk) (by simpa [wf] using hk') (tm_nd hr) (tm_nd hr') e2
      refine ⟨?_, e⟩
      cases i <;> cases i' <;> first | rfl | exact absurd e1 w_ne.2.2.2.1 | exact absurd e1.symm w_ne.2.2.2.1
    | .hole s, .hole s', hk, hk', _, e2, _ =>
      simp only [rs, List.cons_append, List.cons.injEq, true_and] at e2
      obtain ⟨e, e'⟩ := split_l (nm_all hk) (nm_all hk') (tm_nl hr) (tm_nl hr') e2
      rw [tl_inj e]
      exact ⟨rfl, e'⟩
    | .rcd v ps, .rcd v' ps', hk, hk', e1, e2, _ =>
      simp only [rs, List.cons_append, List.cons.injEq, true_and, List.append_assoc, List.nil_append] at e2
      obtain ⟨rfl, e⟩ := injP ps ps' (by simpa [wf] using hk) (by simpa [wf] using hk') e2
      refine ⟨?_, e⟩
      cases v <;> cases v' <;> first | rfl | exact absurd e1 w_ne.2.2.2.2 | exact absurd e1.symm w_ne.2.2.2.2
    | .row n k, .row n' k', hk, hk', _, e2, _ =>
      simp only [wf, Bool.and_eq_true, decide_eq_true_eq] at hk hk'
      simp only [rs, List.cons_append, List.cons.injEq, true_and, List.append_assoc] at e2
      obtain ⟨rfl, e⟩ := split_d hk.1 hk'.1 (by rfl) (by rfl) e2
      simp only [List.cons.injEq, true_and] at e
      obtain ⟨rfl, e9⟩ := inj k k' hk.2 hk'.2 hr hr' e
      exact ⟨rfl, e9⟩
    | .wrap b k, .wrap b' k', hk, hk', e1, e2, _ =>
      simp only [rs, List.cons_append, List.cons.injEq, true_and] at e2
      obtain ⟨rfl, e⟩ := inj k k' hk hk' hr hr' e2
      refine ⟨?_, e⟩
      cases b <;> cases b' <;> first | rfl | exact absurd e1 w_ne.2.2.1 | exact absurd e1.symm w_ne.2.2.1
    | .use s fs, .use s' fs', hk, hk', e1, e2, _ =>
      simp only [wf, Bool.and_eq_true] at hk hk'
      simp only [rs, List.cons_append, List.cons.injEq, true_and, List.append_assoc, List.nil_append] at e2
      obtain ⟨rfl, e⟩ := injK fs fs' hk.2 hk'.2 e2
      have e1 : tl s = tl s' := e1
      rw [tl_inj e1]
      exact ⟨rfl, e⟩
    | .row _ _, .wrap b _, _, _, e1, _, _ => cases b <;> first | exact absurd e1 w_ne.1 | exact absurd e1 w_ne.2.1
    | .wrap b _, .row _ _, _, _, e1, _, _ => cases b <;> first | exact absurd e1.symm w_ne.1 | exact absurd e1.symm w_ne.2.1
theorem injP : ∀ (ps ps' : Ps) {r r' : List Nat}, wfp ps = true → wfp ps' = true → jn ((ptx ps).map tl) ++ 41 :: r = jn ((ptx ps').map tl) ++ 41 :: r' → ps = ps' ∧ r = r'
  | .nil, .nil, r, r', _, _, h => by
    simp only [ptx, List.map_nil, jn, List.nil_append, List.cons.injEq, true_and] at h
    exact ⟨rfl, h⟩
  | .nil, .cons s k ps, r, r', _, hk, h => by
    simp only [wfp, Bool.and_eq_true] at hk
    obtain ⟨c, z, e, hc⟩ := nm_ne hk.1.1
    simp only [ptx, List.map_nil, List.map_cons, jn, List.nil_append] at h
    rw [jn_cons, tl_app, tl_app, e] at h
    simp only [List.cons_append, List.cons.injEq] at h
    rw [← h.1] at hc
    exact absurd hc (by decide)
  | .cons s k ps, .nil, r, r', hk, _, h => by
    simp only [wfp, Bool.and_eq_true] at hk
    obtain ⟨c, z, e, hc⟩ := nm_ne hk.1.1
    simp only [ptx, List.map_nil, List.map_cons, jn, List.nil_append] at h
    rw [jn_cons, tl_app, tl_app, e] at h
    simp only [List.cons_append, List.cons.injEq] at h
    rw [h.1] at hc
    exact absurd hc (by decide)
  | .cons s k ps, .cons s' k' ps', r, r', hk, hk', h => by
    simp only [wfp, Bool.and_eq_true] at hk hk'
    simp only [ptx, List.map_cons] at h
    rw [jn_cons, jn_cons, tl_app, tl_app, tl_app, tl_app, lit1.2.2.2.2.1, List.append_assoc, List.append_assoc, List.append_assoc, List.append_assoc] at h
    obtain ⟨e1, e2⟩ := split_l (nm_all hk.1.1) (nm_all hk'.1.1) (by rfl) (by rfl) h
    simp only [List.cons_append, List.nil_append, List.cons.injEq, true_and] at e2
    have es := tl_inj e1
    subst es
    match ps, ps', hk, hk', e2 with
    | .nil, .nil, hk, hk', e2 =>
      obtain ⟨rfl, e⟩ := inj k k' hk.1.2 hk'.1.2 (by rfl) (by rfl) e2
      have e : (41 :: r) = 41 :: r' := e
      simp only [List.cons.injEq, true_and] at e
      exact ⟨rfl, e⟩
    | .nil, .cons _ _ _, hk, hk', e2 =>
      obtain ⟨_, e⟩ := inj k k' hk.1.2 hk'.1.2 (by rfl) (by rfl) e2
      exact absurd (show some 41 = some 44 from congrArg List.head? e) (by decide)
    | .cons _ _ _, .nil, hk, hk', e2 =>
      obtain ⟨_, e⟩ := inj k k' hk.1.2 hk'.1.2 (by rfl) (by rfl) e2
      exact absurd (show some 44 = some 41 from congrArg List.head? e) (by decide)
    | .cons a b ps, .cons a' b' ps', hk, hk', e2 =>
      obtain ⟨rfl, e⟩ := inj k k' hk.1.2 hk'.1.2 (by rfl) (by rfl) e2
      have e : 44 :: 32 :: (jn ((ptx (.cons a b ps)).map tl) ++ 41 :: r) = 44 :: 32 :: (jn ((ptx (.cons a' b' ps')).map tl) ++ 41 :: r') := e
      simp only [List.cons.injEq, true_and] at e
      obtain ⟨e3, e4⟩ := injP (.cons a b ps) (.cons a' b' ps') hk.2 hk'.2 e
      rw [e3]
      exact ⟨rfl, e4⟩
theorem injK : ∀ (ps ps' : Ks) {r r' : List Nat}, wfk ps = true → wfk ps' = true → jn ((ktx ps).map tl) ++ 93 :: r = jn ((ktx ps').map tl) ++ 93 :: r' → ps = ps' ∧ r = r'
  | .nil, .nil, r, r', _, _, h => by
    simp only [ktx, List.map_nil, jn, List.nil_append, List.cons.injEq, true_and] at h
    exact ⟨rfl, h⟩
  | .nil, .cons k ps, r, r', _, hk, h => by
    simp only [wfk, Bool.and_eq_true] at hk
    simp only [ktx, List.map_nil, List.map_cons, jn, List.nil_append] at h
    rw [jn_cons] at h
    exact absurd h.symm (no_end hk.1)
  | .cons k ps, .nil, r, r', hk, _, h => by
    simp only [wfk, Bool.and_eq_true] at hk
    simp only [ktx, List.map_nil, List.map_cons, jn, List.nil_append] at h
    rw [jn_cons] at h
    exact absurd h (no_end hk.1)
  | .cons k ps, .cons k' ps', r, r', hk, hk', h => by
    simp only [wfk, Bool.and_eq_true] at hk hk'
    simp only [ktx, List.map_cons] at h
    rw [jn_cons, jn_cons] at h
    match ps, ps', hk, hk', h with
    | .nil, .nil, hk, hk', e2 =>
      obtain ⟨rfl, e⟩ := inj k k' hk.1 hk'.1 (by rfl) (by rfl) e2
      have e : (93 :: r) = 93 :: r' := e
      simp only [List.cons.injEq, true_and] at e
      exact ⟨rfl, e⟩
    | .nil, .cons _ _, hk, hk', e2 =>
      obtain ⟨_, e⟩ := inj k k' hk.1 hk'.1 (by rfl) (by rfl) e2
      exact absurd (show some 93 = some 44 from congrArg List.head? e) (by decide)
    | .cons _ _, .nil, hk, hk', e2 =>
      obtain ⟨_, e⟩ := inj k k' hk.1 hk'.1 (by rfl) (by rfl) e2
      exact absurd (show some 44 = some 93 from congrArg List.head? e) (by decide)
    | .cons b ps, .cons b' ps', hk, hk', e2 =>
      obtain ⟨rfl, e⟩ := inj k k' hk.1 hk'.1 (by rfl) (by rfl) e2
      have e : 44 :: 32 :: (jn ((ktx (.cons b ps)).map tl) ++ 93 :: r) = 44 :: 32 :: (jn ((ktx (.cons b' ps')).map tl) ++ 93 :: r') := e
      simp only [List.cons.injEq, true_and] at e
      obtain ⟨e3, e4⟩ := injK (.cons b ps) (.cons b' ps') hk.2 hk'.2 e
      rw [e3]
      exact ⟨rfl, e4⟩
end
end Lw

namespace Lw
open PySem Pv
theorem ofs_inj {a b : String} : (Str.ofString a = Str.ofString b) = (a = b) := by
  apply propext
  constructor
  · intro h
    have h2 : tl (Str.ofString a) = tl (Str.ofString b) := by rw [h]
    have e : ∀ s : String, tl (Str.ofString s) = s.toList.map Char.toNat := fun s => PyProof.Rows.signs_ofString s
    rw [e, e] at h2
    have h3 : a.toList = b.toList := by
      have inj : ∀ (l m : List Char), l.map Char.toNat = m.map Char.toNat → l = m := by
        intro l
        induction l with
        | nil => intro m h; cases m <;> simp_all
        | cons c l ih =>
          intro m h
          cases m with
          | nil => simp at h
          | cons d m =>
            simp only [List.map_cons, List.cons.injEq] at h
            rw [Char.toNat_inj.mp h.1, ih m h.2]
      exact inj _ _ h2
    exact String.toList_inj.mp h3
  · intro h; rw [h]
theorem wNum_t : wNum true = "int" := rfl
theorem wNum_f : wNum false = "nat" := rfl
theorem wRec_t : wRec true = "variant" := rfl
theorem wRec_f : wRec false = "record" := rfl
theorem wWrap_t : wWrap true = "box" := rfl
theorem wWrap_f : wWrap false = "maybe" := rfl
mutual
def kz : Kd → Nat
  | .truth => 1
  | .num _ _ => 1
  | .hole _ => 1
  | .rcd _ ps => 1 + pz ps
  | .row _ k => 1 + kz k
  | .wrap _ k => 1 + kz k
  | .use _ fs => 1 + fz fs
def pz : Ps → Nat
  | .nil => 0
  | .cons _ k r => kz k + pz r
def fz : Ks → Nat
  | .nil => 0
  | .cons k r => kz k + fz r
end
theorem kz_pos (k : Kd) : 0 < kz k := by cases k <;> simp [kz] <;> omega
theorem slen {a b : Str} : (a ++ b).length = a.length + b.length := by
  show (a.cps ++ b.cps).size = a.cps.size + b.cps.size
  exact Array.size_append ..
theorem wlen : (wNum true).length = 3 ∧ (wNum false).length = 3 ∧ (wRec true).length = 7 ∧ (wRec false).length = 6 ∧ (wWrap true).length = 3 ∧ (wWrap false).length = 5 ∧ (Str.ofString "truth").length = 5 ∧ (Str.ofString "(").length = 1 ∧ (Str.ofString ")").length = 1 ∧ (Str.ofString "[").length = 1 ∧ (Str.ofString "]").length = 1 ∧ (Str.ofString " ").length = 1 ∧ (Str.ofString "?").length = 1 ∧ (Str.ofString "row ").length = 4 ∧ (Str.ofString ", ").length = 2 := by decide +kernel
theorem wNum_le (i : Bool) : (wNum i).length ≤ 7 := by cases i <;> decide +kernel
theorem wRec_le (i : Bool) : (wRec i).length ≤ 7 := by cases i <;> decide +kernel
theorem wWrap_le (i : Bool) : (wWrap i).length ≤ 7 := by cases i <;> decide +kernel
theorem sN_le {n : Nat} (h : n < 100) : (sN n).length ≤ 2 := by
  have e := tl_sN n h
  have : (sN n).length = (tl (sN n)).length := by simp [Str.length]
  rw [this, e]
  unfold dg
  split <;> simp
theorem nm_le {s : Str} (h : nmOk s = true) : s.length ≤ 13 := by
  simp only [nmOk, Bool.and_eq_true, decide_eq_true_eq] at h
  exact h.2
def sm_ (l : List Str) : Nat := (l.map (·.length)).sum
theorem joinl (l : List Str) : (Str.join ", " l).length ≤ sm_ l + l.length * 2 := by
  have := StrLaws.join_length_le ", " l
  rw [wlen.2.2.2.2.2.2.2.2.2.2.2.2.2.2] at this
  exact this
mutual
theorem tz : ∀ {k : Kd}, wf k = true → (txt k).length + 20 ≤ 40 * kz k
  | .truth, _ => by simp only [txt, kz, wlen]; omega
  | .num i b, h => by
    have := wNum_le i
    have := sN_le (n := b) (by simpa [wf] using h)
    simp only [txt, kz, slen]; omega
  | .hole s, h => by
    have := nm_le (s := s) h
    simp only [txt, kz, slen, wlen]; omega
  | .rcd v ps, h => by
    have := wRec_le v
    have := tzp (ps := ps) (by simpa [wf] using h)
    have := joinl (ptx ps)
    simp only [txt, kz, slen, wlen]; omega
  | .row n k, h => by
    simp only [wf, Bool.and_eq_true, decide_eq_true_eq] at h
    have := sN_le h.1
    have := tz h.2
    simp only [txt, kz, slen, wlen]; omega
  | .wrap b k, h => by
    have := wWrap_le b
    have := tz (k := k) h
    simp only [txt, kz, slen, wlen]; omega
  | .use s fs, h => by
    simp only [wf, Bool.and_eq_true] at h
    have := nm_le h.1
    have := tzk h.2
    have := joinl (ktx fs)
    simp only [txt, kz, slen, wlen]; omega
theorem tzp : ∀ {ps : Ps}, wfp ps = true → sm_ (ptx ps) + (ptx ps).length * 4 ≤ 40 * pz ps
  | .nil, _ => by simp [ptx, sm_, pz]
  | .cons s k r, h => by
    simp only [wfp, Bool.and_eq_true] at h
    have := nm_le h.1.1
    have := tz h.1.2
    have := tzp h.2
    simp only [ptx, sm_, pz, List.map_cons, List.sum_cons, List.length_cons, slen, wlen] at *
    omega
theorem tzk : ∀ {ps : Ks}, wfk ps = true → sm_ (ktx ps) + (ktx ps).length * 4 ≤ 40 * fz ps
  | .nil, _ => by simp [ktx, sm_, fz]
  | .cons k r, h => by
    simp only [wfk, Bool.and_eq_true] at h
    have := tz h.1
    have := tzk h.2
    simp only [ktx, sm_, fz, List.map_cons, List.sum_cons, List.length_cons] at *
    omega
end
theorem emp_app {a : Str} : Str.empty ++ a = a := tl_inj (by rw [tl_app]; rfl)
theorem glu2 {a b : Str} (h : a.length + b.length ≤ lim) : gluD Str.empty [.str a, .str b] = some (a ++ b) := by
  have h1 : a.length ≤ lim := by omega
  simp only [gluD, emp_app, slen, h, h1, if_true]
theorem glu3 {a b c : Str} (h : a.length + b.length + c.length ≤ lim) : gluD Str.empty [.str a, .str b, .str c] = some (a ++ b ++ c) := by
  have h1 : a.length ≤ lim := by omega
  have h2 : a.length + b.length ≤ lim := by omega
  simp only [gluD, emp_app, slen, h, h1, h2, if_true]
theorem strs_ok : ∀ {l : List Str}, strsD (l.map .str) = some l
  | [] => rfl
  | x :: l => by rw [List.map_cons, strsD, strs_ok]; rfl
theorem jn_ok {m : M} {l : List Str} (h : sm_ l + l.length * 2 ≤ lim) : joinD m (.str ", ") (.lst (l.map .str)) = some (.str (Str.join ", " l)) := by
  show ((seqOf m (.lst (l.map .str))).bind fun ys => (strsD ys).bind fun ss => if (ss.map (·.length)).sum + ss.length * (Str.ofString ", ").length ≤ lim then some (D.str (Str.join ", " ss)) else none) = _
  have : seqOf m (.lst (l.map .str)) = some (l.map .str) := rfl
  rw [this, Option.bind_some, strs_ok, Option.bind_some, wlen.2.2.2.2.2.2.2.2.2.2.2.2.2.2]
  exact if_pos h
theorem lg {n : Nat} (h : n < 100) : (n : Int).natAbs.log2 < 1920 := by
  have : (n : Int).natAbs = n := by omega
  rw [this]
  by_cases h0 : n = 0
  · subst h0; decide
  · have : n.log2 < 7 := (Nat.log2_lt h0).mpr (by omega)
    omega
theorem fm_s {a : Str} (h : a.length ≤ lim) : txtD (.str a) = some (.str a) := if_pos h
theorem fm_i {n : Nat} (h : n < 100) : txtD (.int (n : Int)) = some (.str (sN n)) := if_pos (lg h)
theorem st_i {m : M} {n : Nat} (h : n < 100) : biD m .str [.int (n : Int)] = some (.str (sN n)) := if_pos (lg h)
theorem compC {t : Tg} {env e : Pv.Env} {te : Pv.Env → M → Option (D × M)} {d v : D} {ds vs : List D} {m : M} (h1 : bindTg m t d env = some e) (h2 : te e m = some (v, m)) (h3 : compL t env te ds m = some (vs, m)) : compL t env te (d :: ds) m = some (v :: vs, m) := by
  rw [compL, h1, Option.bind_some, h2, Option.bind_some, h3]
  rfl
theorem ptx_len : ∀ {ps : Ps}, (ptx ps).length = (psD ps).length ∧ (psD ps).length ≤ pz ps
  | .nil => ⟨rfl, by simp [psD, pz]⟩
  | .cons s k r => by
    have q := ptx_len (ps := r)
    have := kz_pos k
    simp only [ptx, psD, pz, List.length_cons]
    omega
theorem ktx_len : ∀ {ps : Ks}, (ktx ps).length = (ksD ps).length ∧ (ksD ps).length ≤ fz ps
  | .nil => ⟨rfl, by simp [ksD, fz]⟩
  | .cons k r => by
    have q := ktx_len (ps := r)
    have := kz_pos k
    simp only [ktx, ksD, fz, List.length_cons]
    omega
theorem hasp {G : List D} {n : Nat} {w : Str} {r : List D} {m : M} : run tab G (n + 1) 0 [.tup (.str w :: r)] m = some (.bl (decide (w = "record") || decide (w = "variant")), m) := by
  rw [run_has_parts, r_has_parts]
  by_cases h1 : w = "record"
  · subst h1; simp -implicitDefEqProofs only [x_var, y_var, x_con, x_glob, x_bin, x_neg, x_cmp, x_chain, x_isN, x_notN, x_and, x_and1, x_or, x_or1, x_not, x_ife, x_call, x_callP, x_bi, x_isi, x_listRg, x_ix, x_sl, x_tup, x_lst, x_comp, x_compIf, x_box, x_pop, x_popAt, x_append, x_nil, x_cons, x_seq, x_rng1, x_rng2, x_zip, x_asg, x_setix, x_aug, x_ex, x_if, x_for, x_while, x_ret, x_brk, x_cont, x_bnil, x_bcons, y_rt1, y_rtB, y_bin1, y_bin2, y_cmp1, y_cmp2, y_neg, y_isN, y_notN, y_andT, y_andF, y_orT, y_orF, y_not, y_ifT, y_ifF, y_chain1, y_chain2, y_chainT, y_chainF, y_chain3, y_cons1, y_cons2, y_call, y_callP, y_bi, y_isi, y_ix1, y_ix2, y_tup0, y_tup1, y_tup2, y_tup3, y_tup4, y_lst0, y_lst1, y_lst2, y_lst3, y_lc, y_box, y_pop, y_popAt1, y_popAt2, y_append1, y_append2, y_rtL, y_seq, y_seqT, y_seqL, y_rng21, y_zip1, y_zip2, y_zipT, y_zipL, y_rtE, y_asg, y_set1, y_set2, y_set3, y_aug, y_augA, y_augS, y_ex, y_ifST, y_ifSF, y_for, y_ret, y_nx, y_rt, y_bk, y_ct, y_fnR, y_fnN, y_nm, y_tp, y_tgn, y_tgc, y_tgk, v_add, v_sub, v_eqI, v_eqS, v_eqB, v_neI, v_neS, v_neB, v_lt, v_le, v_gt, v_ge, v_lenT, v_lenL, v_lenF, v_tupL, v_tupT, v_listL, v_listT, v_intI, v_intB, v_max, v_min, v_ixT, v_ixL, v_at0, v_at1, v_at2, y_lst4, y_lst5, y_lst6, y_lst7, y_tup5, y_tup6, y_sl1, y_sl1i, y_sl2, y_sl2i, y_sl3, v_slF, v_slL, v_slT, w_0, w_1, y_part, y_sl1v, y_sl1b, y_sl1n, y_sl2v, y_sl2b, y_sl2n, v_isTT, v_isTI, v_isTB, v_isTS, v_isIT, v_isII, v_isIB, v_isIS, v_isBT, v_isBI, v_isBB, v_isBS, v_isST, v_isSI, v_isSB, v_isSS, v_isN, x_rev, x_join, x_fmt, x_fstr, x_zipS, y_rev, y_join1, y_join2, y_fmt, y_fstr, y_rtS, y_zipS1, y_zipS2, v_revL, x_callF, y_callF, List.getElem?_cons_zero, List.getElem?_cons_succ, List.set_cons_zero, List.set_cons_succ, decide_true, decide_false, Int.reduceEq, Int.reduceLT, Int.reduceLE, decide_eq_true_eq, Bool.not_true, Bool.not_false, if_true, if_false, Bool.false_eq_true, b_has_parts, Bool.true_or]
  · by_cases h2 : w = "variant"
    · subst h2; simp -implicitDefEqProofs only [x_var, y_var, x_con, x_glob, x_bin, x_neg, x_cmp, x_chain, x_isN, x_notN, x_and, x_and1, x_or, x_or1, x_not, x_ife, x_call, x_callP, x_bi, x_isi, x_listRg, x_ix, x_sl, x_tup, x_lst, x_comp, x_compIf, x_box, x_pop, x_popAt, x_append, x_nil, x_cons, x_seq, x_rng1, x_rng2, x_zip, x_asg, x_setix, x_aug, x_ex, x_if, x_for, x_while, x_ret, x_brk, x_cont, x_bnil, x_bcons, y_rt1, y_rtB, y_bin1, y_bin2, y_cmp1, y_cmp2, y_neg, y_isN, y_notN, y_andT, y_andF, y_orT, y_orF, y_not, y_ifT, y_ifF, y_chain1, y_chain2, y_chainT, y_chainF, y_chain3, y_cons1, y_cons2, y_call, y_callP, y_bi, y_isi, y_ix1, y_ix2, y_tup0, y_tup1, y_tup2, y_tup3, y_tup4, y_lst0, y_lst1, y_lst2, y_lst3, y_lc, y_box, y_pop, y_popAt1, y_popAt2, y_append1, y_append2, y_rtL, y_seq, y_seqT, y_seqL, y_rng21, y_zip1, y_zip2, y_zipT, y_zipL, y_rtE, y_asg, y_set1, y_set2, y_set3, y_aug, y_augA, y_augS, y_ex, y_ifST, y_ifSF, y_for, y_ret, y_nx, y_rt, y_bk, y_ct, y_fnR, y_fnN, y_nm, y_tp, y_tgn, y_tgc, y_tgk, v_add, v_sub, v_eqI, v_eqS, v_eqB, v_neI, v_neS, v_neB, v_lt, v_le, v_gt, v_ge, v_lenT, v_lenL, v_lenF, v_tupL, v_tupT, v_listL, v_listT, v_intI, v_intB, v_max, v_min, v_ixT, v_ixL, v_at0, v_at1, v_at2, y_lst4, y_lst5, y_lst6, y_lst7, y_tup5, y_tup6, y_sl1, y_sl1i, y_sl2, y_sl2i, y_sl3, v_slF, v_slL, v_slT, w_0, w_1, y_part, y_sl1v, y_sl1b, y_sl1n, y_sl2v, y_sl2b, y_sl2n, v_isTT, v_isTI, v_isTB, v_isTS, v_isIT, v_isII, v_isIB, v_isIS, v_isBT, v_isBI, v_isBB, v_isBS, v_isST, v_isSI, v_isSB, v_isSS, v_isN, x_rev, x_join, x_fmt, x_fstr, x_zipS, y_rev, y_join1, y_join2, y_fmt, y_fstr, y_rtS, y_zipS1, y_zipS2, v_revL, x_callF, y_callF, List.getElem?_cons_zero, List.getElem?_cons_succ, List.set_cons_zero, List.set_cons_succ, decide_true, decide_false, Int.reduceEq, Int.reduceLT, Int.reduceLE, decide_eq_true_eq, Bool.not_true, Bool.not_false, if_true, if_false, Bool.false_eq_true, b_has_parts, ofs_inj, String.reduceEq, Bool.false_or]
    · simp -implicitDefEqProofs only [x_var, y_var, x_con, x_glob, x_bin, x_neg, x_cmp, x_chain, x_isN, x_notN, x_and, x_and1, x_or, x_or1, x_not, x_ife, x_call, x_callP, x_bi, x_isi, x_listRg, x_ix, x_sl, x_tup, x_lst, x_comp, x_compIf, x_box, x_pop, x_popAt, x_append, x_nil, x_cons, x_seq, x_rng1, x_rng2, x_zip, x_asg, x_setix, x_aug, x_ex, x_if, x_for, x_while, x_ret, x_brk, x_cont, x_bnil, x_bcons, y_rt1, y_rtB, y_bin1, y_bin2, y_cmp1, y_cmp2, y_neg, y_isN, y_notN, y_andT, y_andF, y_orT, y_orF, y_not, y_ifT, y_ifF, y_chain1, y_chain2, y_chainT, y_chainF, y_chain3, y_cons1, y_cons2, y_call, y_callP, y_bi, y_isi, y_ix1, y_ix2, y_tup0, y_tup1, y_tup2, y_tup3, y_tup4, y_lst0, y_lst1, y_lst2, y_lst3, y_lc, y_box, y_pop, y_popAt1, y_popAt2, y_append1, y_append2, y_rtL, y_seq, y_seqT, y_seqL, y_rng21, y_zip1, y_zip2, y_zipT, y_zipL, y_rtE, y_asg, y_set1, y_set2, y_set3, y_aug, y_augA, y_augS, y_ex, y_ifST, y_ifSF, y_for, y_ret, y_nx, y_rt, y_bk, y_ct, y_fnR, y_fnN, y_nm, y_tp, y_tgn, y_tgc, y_tgk, v_add, v_sub, v_eqI, v_eqS, v_eqB, v_neI, v_neS, v_neB, v_lt, v_le, v_gt, v_ge, v_lenT, v_lenL, v_lenF, v_tupL, v_tupT, v_listL, v_listT, v_intI, v_intB, v_max, v_min, v_ixT, v_ixL, v_at0, v_at1, v_at2, y_lst4, y_lst5, y_lst6, y_lst7, y_tup5, y_tup6, y_sl1, y_sl1i, y_sl2, y_sl2i, y_sl3, v_slF, v_slL, v_slT, w_0, w_1, y_part, y_sl1v, y_sl1b, y_sl1n, y_sl2v, y_sl2b, y_sl2n, v_isTT, v_isTI, v_isTB, v_isTS, v_isIT, v_isII, v_isIB, v_isIS, v_isBT, v_isBI, v_isBB, v_isBS, v_isST, v_isSI, v_isSB, v_isSS, v_isN, x_rev, x_join, x_fmt, x_fstr, x_zipS, y_rev, y_join1, y_join2, y_fmt, y_fstr, y_rtS, y_zipS1, y_zipS2, v_revL, x_callF, y_callF, List.getElem?_cons_zero, List.getElem?_cons_succ, List.set_cons_zero, List.set_cons_succ, decide_true, decide_false, Int.reduceEq, Int.reduceLT, Int.reduceLE, decide_eq_true_eq, Bool.not_true, Bool.not_false, if_true, if_false, Bool.false_eq_true, b_has_parts, h1, h2, Bool.false_or]
mutual
theorem shown_ok {G : List D} : ∀ (k : Kd) (N : Nat) (m : M), wf k = true → kz k ≤ 1000 → kz k ≤ N → run tab G (N + 1) 1 [toK k] m = some (.str (txt k), m)
  | .truth, N, m, _, _, hN => by
    simp only [kz] at hN
    rw [run_shown, r_shown]
    obtain ⟨N, rfl⟩ : ∃ k, N = k + 1 := ⟨N - 1, by omega⟩
    simp -implicitDefEqProofs only [x_var, y_var, x_con, x_glob, x_bin, x_neg, x_cmp, x_chain, x_isN, x_notN, x_and, x_and1, x_or, x_or1, x_not, x_ife, x_call, x_callP, x_bi, x_isi, x_listRg, x_ix, x_sl, x_tup, x_lst, x_comp, x_compIf, x_box, x_pop, x_popAt, x_append, x_nil, x_cons, x_seq, x_rng1, x_rng2, x_zip, x_asg, x_setix, x_aug, x_ex, x_if, x_for, x_while, x_ret, x_brk, x_cont, x_bnil, x_bcons, y_rt1, y_rtB, y_bin1, y_bin2, y_cmp1, y_cmp2, y_neg, y_isN, y_notN, y_andT, y_andF, y_orT, y_orF, y_not, y_ifT, y_ifF, y_chain1, y_chain2, y_chainT, y_chainF, y_chain3, y_cons1, y_cons2, y_call, y_callP, y_bi, y_isi, y_ix1, y_ix2, y_tup0, y_tup1, y_tup2, y_tup3, y_tup4, y_lst0, y_lst1, y_lst2, y_lst3, y_lc, y_box, y_pop, y_popAt1, y_popAt2, y_append1, y_append2, y_rtL, y_seq, y_seqT, y_seqL, y_rng21, y_zip1, y_zip2, y_zipT, y_zipL, y_rtE, y_asg, y_set1, y_set2, y_set3, y_aug, y_augA, y_augS, y_ex, y_ifST, y_ifSF, y_for, y_ret, y_nx, y_rt, y_bk, y_ct, y_fnR, y_fnN, y_nm, y_tp, y_tgn, y_tgc, y_tgk, v_add, v_sub, v_eqI, v_eqS, v_eqB, v_neI, v_neS, v_neB, v_lt, v_le, v_gt, v_ge, v_lenT, v_lenL, v_lenF, v_tupL, v_tupT, v_listL, v_listT, v_intI, v_intB, v_max, v_min, v_ixT, v_ixL, v_at0, v_at1, v_at2, y_lst4, y_lst5, y_lst6, y_lst7, y_tup5, y_tup6, y_sl1, y_sl1i, y_sl2, y_sl2i, y_sl3, v_slF, v_slL, v_slT, w_0, w_1, y_part, y_sl1v, y_sl1b, y_sl1n, y_sl2v, y_sl2b, y_sl2n, v_isTT, v_isTI, v_isTB, v_isTS, v_isIT, v_isII, v_isIB, v_isIS, v_isBT, v_isBI, v_isBB, v_isBS, v_isST, v_isSI, v_isSB, v_isSS, v_isN, x_rev, x_join, x_fmt, x_fstr, x_zipS, y_rev, y_join1, y_join2, y_fmt, y_fstr, y_rtS, y_zipS1, y_zipS2, v_revL, x_callF, y_callF, List.getElem?_cons_zero, List.getElem?_cons_succ, List.set_cons_zero, List.set_cons_succ, decide_true, decide_false, Int.reduceEq, Int.reduceLT, Int.reduceLE, decide_eq_true_eq, Bool.not_true, Bool.not_false, if_true, if_false, Bool.false_eq_true, b_shown, toK, txt, ofs_inj, String.reduceEq, hasp, y_pure (show pure_ (.bl false) = true from rfl), Bool.or_self, Bool.or_false, Bool.or_true]
  | .num i b, N, m, h, _, hN => by
    have hb : b < 100 := by simpa [wf] using h
    have := sN_le hb
    have l1 := wNum_le i
    rw [run_shown, r_shown]
    cases i
    · simp -implicitDefEqProofs only [x_var, y_var, x_con, x_glob, x_bin, x_neg, x_cmp, x_chain, x_isN, x_notN, x_and, x_and1, x_or, x_or1, x_not, x_ife, x_call, x_callP, x_bi, x_isi, x_listRg, x_ix, x_sl, x_tup, x_lst, x_comp, x_compIf, x_box, x_pop, x_popAt, x_append, x_nil, x_cons, x_seq, x_rng1, x_rng2, x_zip, x_asg, x_setix, x_aug, x_ex, x_if, x_for, x_while, x_ret, x_brk, x_cont, x_bnil, x_bcons, y_rt1, y_rtB, y_bin1, y_bin2, y_cmp1, y_cmp2, y_neg, y_isN, y_notN, y_andT, y_andF, y_orT, y_orF, y_not, y_ifT, y_ifF, y_chain1, y_chain2, y_chainT, y_chainF, y_chain3, y_cons1, y_cons2, y_call, y_callP, y_bi, y_isi, y_ix1, y_ix2, y_tup0, y_tup1, y_tup2, y_tup3, y_tup4, y_lst0, y_lst1, y_lst2, y_lst3, y_lc, y_box, y_pop, y_popAt1, y_popAt2, y_append1, y_append2, y_rtL, y_seq, y_seqT, y_seqL, y_rng21, y_zip1, y_zip2, y_zipT, y_zipL, y_rtE, y_asg, y_set1, y_set2, y_set3, y_aug, y_augA, y_augS, y_ex, y_ifST, y_ifSF, y_for, y_ret, y_nx, y_rt, y_bk, y_ct, y_fnR, y_fnN, y_nm, y_tp, y_tgn, y_tgc, y_tgk, v_add, v_sub, v_eqI, v_eqS, v_eqB, v_neI, v_neS, v_neB, v_lt, v_le, v_gt, v_ge, v_lenT, v_lenL, v_lenF, v_tupL, v_tupT, v_listL, v_listT, v_intI, v_intB, v_max, v_min, v_ixT, v_ixL, v_at0, v_at1, v_at2, y_lst4, y_lst5, y_lst6, y_lst7, y_tup5, y_tup6, y_sl1, y_sl1i, y_sl2, y_sl2i, y_sl3, v_slF, v_slL, v_slT, w_0, w_1, y_part, y_sl1v, y_sl1b, y_sl1n, y_sl2v, y_sl2b, y_sl2n, v_isTT, v_isTI, v_isTB, v_isTS, v_isIT, v_isII, v_isIB, v_isIS, v_isBT, v_isBI, v_isBB, v_isBS, v_isST, v_isSI, v_isSB, v_isSS, v_isN, x_rev, x_join, x_fmt, x_fstr, x_zipS, y_rev, y_join1, y_join2, y_fmt, y_fstr, y_rtS, y_zipS1, y_zipS2, v_revL, x_callF, y_callF, List.getElem?_cons_zero, List.getElem?_cons_succ, List.set_cons_zero, List.set_cons_succ, decide_true, decide_false, Int.reduceEq, Int.reduceLT, Int.reduceLE, decide_eq_true_eq, Bool.not_true, Bool.not_false, if_true, if_false, Bool.false_eq_true, b_shown, toK, txt, wNum_f, ofs_inj, String.reduceEq, fm_i hb, fm_s (show (Str.ofString "nat").length ≤ lim from lim10 (by rw [← wNum_f]; omega)), glu2 (a := "nat") (b := sN b) (lim10 (by rw [← wNum_f]; omega))]
    · simp -implicitDefEqProofs only [x_var, y_var, x_con, x_glob, x_bin, x_neg, x_cmp, x_chain, x_isN, x_notN, x_and, x_and1, x_or, x_or1, x_not, x_ife, x_call, x_callP, x_bi, x_isi, x_listRg, x_ix, x_sl, x_tup, x_lst, x_comp, x_compIf, x_box, x_pop, x_popAt, x_append, x_nil, x_cons, x_seq, x_rng1, x_rng2, x_zip, x_asg, x_setix, x_aug, x_ex, x_if, x_for, x_while, x_ret, x_brk, x_cont, x_bnil, x_bcons, y_rt1, y_rtB, y_bin1, y_bin2, y_cmp1, y_cmp2, y_neg, y_isN, y_notN, y_andT, y_andF, y_orT, y_orF, y_not, y_ifT, y_ifF, y_chain1, y_chain2, y_chainT, y_chainF, y_chain3, y_cons1, y_cons2, y_call, y_callP, y_bi, y_isi, y_ix1, y_ix2, y_tup0, y_tup1, y_tup2, y_tup3, y_tup4, y_lst0, y_lst1, y_lst2, y_lst3, y_lc, y_box, y_pop, y_popAt1, y_popAt2, y_append1, y_append2, y_rtL, y_seq, y_seqT, y_seqL, y_rng21, y_zip1, y_zip2, y_zipT, y_zipL, y_rtE, y_asg, y_set1, y_set2, y_set3, y_aug, y_augA, y_augS, y_ex, y_ifST, y_ifSF, y_for, y_ret, y_nx, y_rt, y_bk, y_ct, y_fnR, y_fnN, y_nm, y_tp, y_tgn, y_tgc, y_tgk, v_add, v_sub, v_eqI, v_eqS, v_eqB, v_neI, v_neS, v_neB, v_lt, v_le, v_gt, v_ge, v_lenT, v_lenL, v_lenF, v_tupL, v_tupT, v_listL, v_listT, v_intI, v_intB, v_max, v_min, v_ixT, v_ixL, v_at0, v_at1, v_at2, y_lst4, y_lst5, y_lst6, y_lst7, y_tup5, y_tup6, y_sl1, y_sl1i, y_sl2, y_sl2i, y_sl3, v_slF, v_slL, v_slT, w_0, w_1, y_part, y_sl1v, y_sl1b, y_sl1n, y_sl2v, y_sl2b, y_sl2n, v_isTT, v_isTI, v_isTB, v_isTS, v_isIT, v_isII, v_isIB, v_isIS, v_isBT, v_isBI, v_isBB, v_isBS, v_isST, v_isSI, v_isSB, v_isSS, v_isN, x_rev, x_join, x_fmt, x_fstr, x_zipS, y_rev, y_join1, y_join2, y_fmt, y_fstr, y_rtS, y_zipS1, y_zipS2, v_revL, x_callF, y_callF, List.getElem?_cons_zero, List.getElem?_cons_succ, List.set_cons_zero, List.set_cons_succ, decide_true, decide_false, Int.reduceEq, Int.reduceLT, Int.reduceLE, decide_eq_true_eq, Bool.not_true, Bool.not_false, if_true, if_false, Bool.false_eq_true, b_shown, toK, txt, wNum_t, ofs_inj, String.reduceEq, fm_i hb, fm_s (show (Str.ofString "int").length ≤ lim from lim10 (by rw [← wNum_t]; omega)), glu2 (a := "int") (b := sN b) (lim10 (by rw [← wNum_t]; omega))]
  | .hole s, N, m, h, _, hN => by
    simp only [kz] at hN
    have := nm_le (s := s) h
    rw [run_shown, r_shown]
    obtain ⟨N, rfl⟩ : ∃ k, N = k + 1 := ⟨N - 1, by omega⟩
    simp -implicitDefEqProofs only [x_var, y_var, x_con, x_glob, x_bin, x_neg, x_cmp, x_chain, x_isN, x_notN, x_and, x_and1, x_or, x_or1, x_not, x_ife, x_call, x_callP, x_bi, x_isi, x_listRg, x_ix, x_sl, x_tup, x_lst, x_comp, x_compIf, x_box, x_pop, x_popAt, x_append, x_nil, x_cons, x_seq, x_rng1, x_rng2, x_zip, x_asg, x_setix, x_aug, x_ex, x_if, x_for, x_while, x_ret, x_brk, x_cont, x_bnil, x_bcons, y_rt1, y_rtB, y_bin1, y_bin2, y_cmp1, y_cmp2, y_neg, y_isN, y_notN, y_andT, y_andF, y_orT, y_orF, y_not, y_ifT, y_ifF, y_chain1, y_chain2, y_chainT, y_chainF, y_chain3, y_cons1, y_cons2, y_call, y_callP, y_bi, y_isi, y_ix1, y_ix2, y_tup0, y_tup1, y_tup2, y_tup3, y_tup4, y_lst0, y_lst1, y_lst2, y_lst3, y_lc, y_box, y_pop, y_popAt1, y_popAt2, y_append1, y_append2, y_rtL, y_seq, y_seqT, y_seqL, y_rng21, y_zip1, y_zip2, y_zipT, y_zipL, y_rtE, y_asg, y_set1, y_set2, y_set3, y_aug, y_augA, y_augS, y_ex, y_ifST, y_ifSF, y_for, y_ret, y_nx, y_rt, y_bk, y_ct, y_fnR, y_fnN, y_nm, y_tp, y_tgn, y_tgc, y_tgk, v_add, v_sub, v_eqI, v_eqS, v_eqB, v_neI, v_neS, v_neB, v_lt, v_le, v_gt, v_ge, v_lenT, v_lenL, v_lenF, v_tupL, v_tupT, v_listL, v_listT, v_intI, v_intB, v_max, v_min, v_ixT, v_ixL, v_at0, v_at1, v_at2, y_lst4, y_lst5, y_lst6, y_lst7, y_tup5, y_tup6, y_sl1, y_sl1i, y_sl2, y_sl2i, y_sl3, v_slF, v_slL, v_slT, w_0, w_1, y_part, y_sl1v, y_sl1b, y_sl1n, y_sl2v, y_sl2b, y_sl2n, v_isTT, v_isTI, v_isTB, v_isTS, v_isIT, v_isII, v_isIB, v_isIS, v_isBT, v_isBI, v_isBB, v_isBS, v_isST, v_isSI, v_isSB, v_isSS, v_isN, x_rev, x_join, x_fmt, x_fstr, x_zipS, y_rev, y_join1, y_join2, y_fmt, y_fstr, y_rtS, y_zipS1, y_zipS2, v_revL, x_callF, y_callF, List.getElem?_cons_zero, List.getElem?_cons_succ, List.set_cons_zero, List.set_cons_succ, decide_true, decide_false, Int.reduceEq, Int.reduceLT, Int.reduceLE, decide_eq_true_eq, Bool.not_true, Bool.not_false, if_true, if_false, Bool.false_eq_true, b_shown, toK, txt, ofs_inj, String.reduceEq, hasp, y_pure (show pure_ (.bl false) = true from rfl), Bool.or_self, Bool.or_false, Bool.or_true, v_catS (z := "?") (w := s) (lim10 (by simp only [wlen]; omega))]
  | .rcd v ps, N, m, h, hz, hN => by
    have hw : wfp ps = true := by simpa [wf] using h
    have l1 := wRec_le v
    have l2 := tzp hw
    have l3 := joinl (ptx ps)
    have l4 := ptx_len (ps := ps)
    simp only [kz] at hz hN
    obtain ⟨N, rfl⟩ : ∃ k, N = k + 1 := ⟨N - 1, by omega⟩
    have hl : (psD ps).length ≤ lim := lim10 (by omega)
    have c1 := v_catS (m := m) (z := wRec v) (w := "(") (lim10 (by simp only [wlen]; omega))
    have c2 := v_catS (m := m) (z := wRec v ++ "(") (w := Str.join ", " (ptx ps)) (lim10 (by simp only [slen, wlen]; omega))
    have c3 := v_catS (m := m) (z := wRec v ++ "(" ++ Str.join ", " (ptx ps)) (w := ")") (lim10 (by simp only [slen, wlen]; omega))
    have cp := shownP (G := G) ps (N + 1) m hw (by omega) (by omega) (some (toK (.rcd v ps))) (some (.str (wRec v))) none
    have jj := jn_ok (m := m) (l := ptx ps) (lim10 (by omega))
    rw [run_shown, r_shown]
    cases v
    · rw [wRec_f] at c1 c2 c3 cp
      simp only [toK, wRec_f] at cp
      simp -implicitDefEqProofs only [x_var, y_var, x_con, x_glob, x_bin, x_neg, x_cmp, x_chain, x_isN, x_notN, x_and, x_and1, x_or, x_or1, x_not, x_ife, x_call, x_callP, x_bi, x_isi, x_listRg, x_ix, x_sl, x_tup, x_lst, x_comp, x_compIf, x_box, x_pop, x_popAt, x_append, x_nil, x_cons, x_seq, x_rng1, x_rng2, x_zip, x_asg, x_setix, x_aug, x_ex, x_if, x_for, x_while, x_ret, x_brk, x_cont, x_bnil, x_bcons, y_rt1, y_rtB, y_bin1, y_bin2, y_cmp1, y_cmp2, y_neg, y_isN, y_notN, y_andT, y_andF, y_orT, y_orF, y_not, y_ifT, y_ifF, y_chain1, y_chain2, y_chainT, y_chainF, y_chain3, y_cons1, y_cons2, y_call, y_callP, y_bi, y_isi, y_ix1, y_ix2, y_tup0, y_tup1, y_tup2, y_tup3, y_tup4, y_lst0, y_lst1, y_lst2, y_lst3, y_lc, y_box, y_pop, y_popAt1, y_popAt2, y_append1, y_append2, y_rtL, y_seq, y_seqT, y_seqL, y_rng21, y_zip1, y_zip2, y_zipT, y_zipL, y_rtE, y_asg, y_set1, y_set2, y_set3, y_aug, y_augA, y_augS, y_ex, y_ifST, y_ifSF, y_for, y_ret, y_nx, y_rt, y_bk, y_ct, y_fnR, y_fnN, y_nm, y_tp, y_tgn, y_tgc, y_tgk, v_add, v_sub, v_eqI, v_eqS, v_eqB, v_neI, v_neS, v_neB, v_lt, v_le, v_gt, v_ge, v_lenT, v_lenL, v_lenF, v_tupL, v_tupT, v_listL, v_listT, v_intI, v_intB, v_max, v_min, v_ixT, v_ixL, v_at0, v_at1, v_at2, y_lst4, y_lst5, y_lst6, y_lst7, y_tup5, y_tup6, y_sl1, y_sl1i, y_sl2, y_sl2i, y_sl3, v_slF, v_slL, v_slT, w_0, w_1, y_part, y_sl1v, y_sl1b, y_sl1n, y_sl2v, y_sl2b, y_sl2n, v_isTT, v_isTI, v_isTB, v_isTS, v_isIT, v_isII, v_isIB, v_isIS, v_isBT, v_isBI, v_isBB, v_isBS, v_isST, v_isSI, v_isSB, v_isSS, v_isN, x_rev, x_join, x_fmt, x_fstr, x_zipS, y_rev, y_join1, y_join2, y_fmt, y_fstr, y_rtS, y_zipS1, y_zipS2, v_revL, x_callF, y_callF, List.getElem?_cons_zero, List.getElem?_cons_succ, List.set_cons_zero, List.set_cons_succ, decide_true, decide_false, Int.reduceEq, Int.reduceLT, Int.reduceLE, decide_eq_true_eq, Bool.not_true, Bool.not_false, if_true, if_false, Bool.false_eq_true, b_shown, toK, txt, wRec_f, ofs_inj, String.reduceEq, hasp, y_pure (show pure_ (.bl true) = true from rfl), Bool.or_false, Bool.or_true, Bool.true_or, y_comp hl, cp, jj, c1, c2, c3]
    · rw [wRec_t] at c1 c2 c3 cp
      simp only [toK, wRec_t] at cp
      simp -implicitDefEqProofs only [x_var, y_var, x_con, x_glob, x_bin, x_neg, x_cmp, x_chain, x_isN, x_notN, x_and, x_and1, x_or, x_or1, x_not, x_ife, x_call, x_callP, x_bi, x_isi, x_listRg, x_ix, x_sl, x_tup, x_lst, x_comp, x_compIf, x_box, x_pop, x_popAt, x_append, x_nil, x_cons, x_seq, x_rng1, x_rng2, x_zip, x_asg, x_setix, x_aug, x_ex, x_if, x_for, x_while, x_ret, x_brk, x_cont, x_bnil, x_bcons, y_rt1, y_rtB, y_bin1, y_bin2, y_cmp1, y_cmp2, y_neg, y_isN, y_notN, y_andT, y_andF, y_orT, y_orF, y_not, y_ifT, y_ifF, y_chain1, y_chain2, y_chainT, y_chainF, y_chain3, y_cons1, y_cons2, y_call, y_callP, y_bi, y_isi, y_ix1, y_ix2, y_tup0, y_tup1, y_tup2, y_tup3, y_tup4, y_lst0, y_lst1, y_lst2, y_lst3, y_lc, y_box, y_pop, y_popAt1, y_popAt2, y_append1, y_append2, y_rtL, y_seq, y_seqT, y_seqL, y_rng21, y_zip1, y_zip2, y_zipT, y_zipL, y_rtE, y_asg, y_set1, y_set2, y_set3, y_aug, y_augA, y_augS, y_ex, y_ifST, y_ifSF, y_for, y_ret, y_nx, y_rt, y_bk, y_ct, y_fnR, y_fnN, y_nm, y_tp, y_tgn, y_tgc, y_tgk, v_add, v_sub, v_eqI, v_eqS, v_eqB, v_neI, v_neS, v_neB, v_lt, v_le, v_gt, v_ge, v_lenT, v_lenL, v_lenF, v_tupL, v_tupT, v_listL, v_listT, v_intI, v_intB, v_max, v_min, v_ixT, v_ixL, v_at0, v_at1, v_at2, y_lst4, y_lst5, y_lst6, y_lst7, y_tup5, y_tup6, y_sl1, y_sl1i, y_sl2, y_sl2i, y_sl3, v_slF, v_slL, v_slT, w_0, w_1, y_part, y_sl1v, y_sl1b, y_sl1n, y_sl2v, y_sl2b, y_sl2n, v_isTT, v_isTI, v_isTB, v_isTS, v_isIT, v_isII, v_isIB, v_isIS, v_isBT, v_isBI, v_isBB, v_isBS, v_isST, v_isSI, v_isSB, v_isSS, v_isN, x_rev, x_join, x_fmt, x_fstr, x_zipS, y_rev, y_join1, y_join2, y_fmt, y_fstr, y_rtS, y_zipS1, y_zipS2, v_revL, x_callF, y_callF, List.getElem?_cons_zero, List.getElem?_cons_succ, List.set_cons_zero, List.set_cons_succ, decide_true, decide_false, Int.reduceEq, Int.reduceLT, Int.reduceLE, decide_eq_true_eq, Bool.not_true, Bool.not_false, if_true, if_false, Bool.false_eq_true, b_shown, toK, txt, wRec_t, ofs_inj, String.reduceEq, hasp, y_pure (show pure_ (.bl true) = true from rfl), Bool.or_false, Bool.or_true, Bool.true_or, Bool.false_or, y_comp hl, cp, jj, c1, c2, c3]
  | .row n k, N, m, h, hz, hN => by
    simp only [wf, Bool.and_eq_true, decide_eq_true_eq] at h
    simp only [kz] at hz hN
    obtain ⟨N, rfl⟩ : ∃ k, N = k + 1 := ⟨N - 1, by omega⟩
    have := sN_le h.1
    have t := tz h.2
    have ih := shown_ok (G := G) k N m h.2 (by omega) (by omega)
    rw [run_shown, r_shown]
    simp -implicitDefEqProofs only [x_var, y_var, x_con, x_glob, x_bin, x_neg, x_cmp, x_chain, x_isN, x_notN, x_and, x_and1, x_or, x_or1, x_not, x_ife, x_call, x_callP, x_bi, x_isi, x_listRg, x_ix, x_sl, x_tup, x_lst, x_comp, x_compIf, x_box, x_pop, x_popAt, x_append, x_nil, x_cons, x_seq, x_rng1, x_rng2, x_zip, x_asg, x_setix, x_aug, x_ex, x_if, x_for, x_while, x_ret, x_brk, x_cont, x_bnil, x_bcons, y_rt1, y_rtB, y_bin1, y_bin2, y_cmp1, y_cmp2, y_neg, y_isN, y_notN, y_andT, y_andF, y_orT, y_orF, y_not, y_ifT, y_ifF, y_chain1, y_chain2, y_chainT, y_chainF, y_chain3, y_cons1, y_cons2, y_call, y_callP, y_bi, y_isi, y_ix1, y_ix2, y_tup0, y_tup1, y_tup2, y_tup3, y_tup4, y_lst0, y_lst1, y_lst2, y_lst3, y_lc, y_box, y_pop, y_popAt1, y_popAt2, y_append1, y_append2, y_rtL, y_seq, y_seqT, y_seqL, y_rng21, y_zip1, y_zip2, y_zipT, y_zipL, y_rtE, y_asg, y_set1, y_set2, y_set3, y_aug, y_augA, y_augS, y_ex, y_ifST, y_ifSF, y_for, y_ret, y_nx, y_rt, y_bk, y_ct, y_fnR, y_fnN, y_nm, y_tp, y_tgn, y_tgc, y_tgk, v_add, v_sub, v_eqI, v_eqS, v_eqB, v_neI, v_neS, v_neB, v_lt, v_le, v_gt, v_ge, v_lenT, v_lenL, v_lenF, v_tupL, v_tupT, v_listL, v_listT, v_intI, v_intB, v_max, v_min, v_ixT, v_ixL, v_at0, v_at1, v_at2, y_lst4, y_lst5, y_lst6, y_lst7, y_tup5, y_tup6, y_sl1, y_sl1i, y_sl2, y_sl2i, y_sl3, v_slF, v_slL, v_slT, w_0, w_1, y_part, y_sl1v, y_sl1b, y_sl1n, y_sl2v, y_sl2b, y_sl2n, v_isTT, v_isTI, v_isTB, v_isTS, v_isIT, v_isII, v_isIB, v_isIS, v_isBT, v_isBI, v_isBB, v_isBS, v_isST, v_isSI, v_isSB, v_isSS, v_isN, x_rev, x_join, x_fmt, x_fstr, x_zipS, y_rev, y_join1, y_join2, y_fmt, y_fstr, y_rtS, y_zipS1, y_zipS2, v_revL, x_callF, y_callF, List.getElem?_cons_zero, List.getElem?_cons_succ, List.set_cons_zero, List.set_cons_succ, decide_true, decide_false, Int.reduceEq, Int.reduceLT, Int.reduceLE, decide_eq_true_eq, Bool.not_true, Bool.not_false, if_true, if_false, Bool.false_eq_true, b_shown, toK, txt, ofs_inj, String.reduceEq, hasp, y_pure (show pure_ (.bl false) = true from rfl), Bool.or_self, Bool.or_false, Bool.or_true, fm_i h.1, glu3 (a := "row ") (b := sN n) (c := " ") (lim10 (by simp only [wlen]; omega)), ih, y_pure (show pure_ (.str (txt k)) = true from rfl), v_catS (z := "row " ++ sN n ++ " ") (w := txt k) (lim10 (by simp only [slen, wlen]; omega))]
  | .wrap b k, N, m, h, hz, hN => by
    have h : wf k = true := h
    simp only [kz] at hz hN
    obtain ⟨N, rfl⟩ : ∃ k, N = k + 1 := ⟨N - 1, by omega⟩
    have l1 := wWrap_le b
    have t := tz h
    have ih := shown_ok (G := G) k N m h (by omega) (by omega)
    have c1 := v_catS (m := m) (z := wWrap b) (w := " ") (lim10 (by simp only [wlen]; omega))
    have c2 := v_catS (m := m) (z := wWrap b ++ " ") (w := txt k) (lim10 (by simp only [slen, wlen]; omega))
    rw [run_shown, r_shown]
    cases b
    · rw [wWrap_f] at c1 c2
      simp -implicitDefEqProofs only [x_var, y_var, x_con, x_glob, x_bin, x_neg, x_cmp, x_chain, x_isN, x_notN, x_and, x_and1, x_or, x_or1, x_not, x_ife, x_call, x_callP, x_bi, x_isi, x_listRg, x_ix, x_sl, x_tup, x_lst, x_comp, x_compIf, x_box, x_pop, x_popAt, x_append, x_nil, x_cons, x_seq, x_rng1, x_rng2, x_zip, x_asg, x_setix, x_aug, x_ex, x_if, x_for, x_while, x_ret, x_brk, x_cont, x_bnil, x_bcons, y_rt1, y_rtB, y_bin1, y_bin2, y_cmp1, y_cmp2, y_neg, y_isN, y_notN, y_andT, y_andF, y_orT, y_orF, y_not, y_ifT, y_ifF, y_chain1, y_chain2, y_chainT, y_chainF, y_chain3, y_cons1, y_cons2, y_call, y_callP, y_bi, y_isi, y_ix1, y_ix2, y_tup0, y_tup1, y_tup2, y_tup3, y_tup4, y_lst0, y_lst1, y_lst2, y_lst3, y_lc, y_box, y_pop, y_popAt1, y_popAt2, y_append1, y_append2, y_rtL, y_seq, y_seqT, y_seqL, y_rng21, y_zip1, y_zip2, y_zipT, y_zipL, y_rtE, y_asg, y_set1, y_set2, y_set3, y_aug, y_augA, y_augS, y_ex, y_ifST, y_ifSF, y_for, y_ret, y_nx, y_rt, y_bk, y_ct, y_fnR, y_fnN, y_nm, y_tp, y_tgn, y_tgc, y_tgk, v_add, v_sub, v_eqI, v_eqS, v_eqB, v_neI, v_neS, v_neB, v_lt, v_le, v_gt, v_ge, v_lenT, v_lenL, v_lenF, v_tupL, v_tupT, v_listL, v_listT, v_intI, v_intB, v_max, v_min, v_ixT, v_ixL, v_at0, v_at1, v_at2, y_lst4, y_lst5, y_lst6, y_lst7, y_tup5, y_tup6, y_sl1, y_sl1i, y_sl2, y_sl2i, y_sl3, v_slF, v_slL, v_slT, w_0, w_1, y_part, y_sl1v, y_sl1b, y_sl1n, y_sl2v, y_sl2b, y_sl2n, v_isTT, v_isTI, v_isTB, v_isTS, v_isIT, v_isII, v_isIB, v_isIS, v_isBT, v_isBI, v_isBB, v_isBS, v_isST, v_isSI, v_isSB, v_isSS, v_isN, x_rev, x_join, x_fmt, x_fstr, x_zipS, y_rev, y_join1, y_join2, y_fmt, y_fstr, y_rtS, y_zipS1, y_zipS2, v_revL, x_callF, y_callF, List.getElem?_cons_zero, List.getElem?_cons_succ, List.set_cons_zero, List.set_cons_succ, decide_true, decide_false, Int.reduceEq, Int.reduceLT, Int.reduceLE, decide_eq_true_eq, Bool.not_true, Bool.not_false, if_true, if_false, Bool.false_eq_true, b_shown, toK, txt, wWrap_f, ofs_inj, String.reduceEq, hasp, y_pure (show pure_ (.bl false) = true from rfl), Bool.or_self, Bool.or_false, Bool.or_true, ih, y_pure (show pure_ (.str (txt k)) = true from rfl), c1, c2]
    · rw [wWrap_t] at c1 c2
      simp -implicitDefEqProofs only [x_var, y_var, x_con, x_glob, x_bin, x_neg, x_cmp, x_chain, x_isN, x_notN, x_and, x_and1, x_or, x_or1, x_not, x_ife, x_call, x_callP, x_bi, x_isi, x_listRg, x_ix, x_sl, x_tup, x_lst, x_comp, x_compIf, x_box, x_pop, x_popAt, x_append, x_nil, x_cons, x_seq, x_rng1, x_rng2, x_zip, x_asg, x_setix, x_aug, x_ex, x_if, x_for, x_while, x_ret, x_brk, x_cont, x_bnil, x_bcons, y_rt1, y_rtB, y_bin1, y_bin2, y_cmp1, y_cmp2, y_neg, y_isN, y_notN, y_andT, y_andF, y_orT, y_orF, y_not, y_ifT, y_ifF, y_chain1, y_chain2, y_chainT, y_chainF, y_chain3, y_cons1, y_cons2, y_call, y_callP, y_bi, y_isi, y_ix1, y_ix2, y_tup0, y_tup1, y_tup2, y_tup3, y_tup4, y_lst0, y_lst1, y_lst2, y_lst3, y_lc, y_box, y_pop, y_popAt1, y_popAt2, y_append1, y_append2, y_rtL, y_seq, y_seqT, y_seqL, y_rng21, y_zip1, y_zip2, y_zipT, y_zipL, y_rtE, y_asg, y_set1, y_set2, y_set3, y_aug, y_augA, y_augS, y_ex, y_ifST, y_ifSF, y_for, y_ret, y_nx, y_rt, y_bk, y_ct, y_fnR, y_fnN, y_nm, y_tp, y_tgn, y_tgc, y_tgk, v_add, v_sub, v_eqI, v_eqS, v_eqB, v_neI, v_neS, v_neB, v_lt, v_le, v_gt, v_ge, v_lenT, v_lenL, v_lenF, v_tupL, v_tupT, v_listL, v_listT, v_intI, v_intB, v_max, v_min, v_ixT, v_ixL, v_at0, v_at1, v_at2, y_lst4, y_lst5, y_lst6, y_lst7, y_tup5, y_tup6, y_sl1, y_sl1i, y_sl2, y_sl2i, y_sl3, v_slF, v_slL, v_slT, w_0, w_1, y_part, y_sl1v, y_sl1b, y_sl1n, y_sl2v, y_sl2b, y_sl2n, v_isTT, v_isTI, v_isTB, v_isTS, v_isIT, v_isII, v_isIB, v_isIS, v_isBT, v_isBI, v_isBB, v_isBS, v_isST, v_isSI, v_isSB, v_isSS, v_isN, x_rev, x_join, x_fmt, x_fstr, x_zipS, y_rev, y_join1, y_join2, y_fmt, y_fstr, y_rtS, y_zipS1, y_zipS2, v_revL, x_callF, y_callF, List.getElem?_cons_zero, List.getElem?_cons_succ, List.set_cons_zero, List.set_cons_succ, decide_true, decide_false, Int.reduceEq, Int.reduceLT, Int.reduceLE, decide_eq_true_eq, Bool.not_true, Bool.not_false, if_true, if_false, Bool.false_eq_true, b_shown, toK, txt, wWrap_t, ofs_inj, String.reduceEq, hasp, y_pure (show pure_ (.bl false) = true from rfl), Bool.or_self, Bool.or_false, Bool.or_true, ih, y_pure (show pure_ (.str (txt k)) = true from rfl), c1, c2]
  | .use s fs, N, m, h, hz, hN => by
    simp only [wf, Bool.and_eq_true] at h
    simp only [kz] at hz hN
    obtain ⟨N, rfl⟩ : ∃ k, N = k + 1 := ⟨N - 1, by omega⟩
    have l1 := nm_le h.1
    have l2 := tzk h.2
    have l3 := joinl (ktx fs)
    have l4 := ktx_len (ps := fs)
    have hl : (ksD fs).length ≤ lim := lim10 (by omega)
    have c1 := v_catS (m := m) (z := s) (w := "[") (lim10 (by simp only [wlen]; omega))
    have c2 := v_catS (m := m) (z := s ++ "[") (w := Str.join ", " (ktx fs)) (lim10 (by simp only [slen, wlen]; omega))
    have c3 := v_catS (m := m) (z := s ++ "[" ++ Str.join ", " (ktx fs)) (w := "]") (lim10 (by simp only [slen, wlen]; omega))
    have cp := shownK (G := G) fs (N + 1) m h.2 (by omega) (by omega) (some (toK (.use s fs))) (some (.str "use")) none none
    simp only [toK] at cp
    have jj := jn_ok (m := m) (l := ktx fs) (lim10 (by omega))
    rw [run_shown, r_shown]
    simp -implicitDefEqProofs only [x_var, y_var, x_con, x_glob, x_bin, x_neg, x_cmp, x_chain, x_isN, x_notN, x_and, x_and1, x_or, x_or1, x_not, x_ife, x_call, x_callP, x_bi, x_isi, x_listRg, x_ix, x_sl, x_tup, x_lst, x_comp, x_compIf, x_box, x_pop, x_popAt, x_append, x_nil, x_cons, x_seq, x_rng1, x_rng2, x_zip, x_asg, x_setix, x_aug, x_ex, x_if, x_for, x_while, x_ret, x_brk, x_cont, x_bnil, x_bcons, y_rt1, y_rtB, y_bin1, y_bin2, y_cmp1, y_cmp2, y_neg, y_isN, y_notN, y_andT, y_andF, y_orT, y_orF, y_not, y_ifT, y_ifF, y_chain1, y_chain2, y_chainT, y_chainF, y_chain3, y_cons1, y_cons2, y_call, y_callP, y_bi, y_isi, y_ix1, y_ix2, y_tup0, y_tup1, y_tup2, y_tup3, y_tup4, y_lst0, y_lst1, y_lst2, y_lst3, y_lc, y_box, y_pop, y_popAt1, y_popAt2, y_append1, y_append2, y_rtL, y_seq, y_seqT, y_seqL, y_rng21, y_zip1, y_zip2, y_zipT, y_zipL, y_rtE, y_asg, y_set1, y_set2, y_set3, y_aug, y_augA, y_augS, y_ex, y_ifST, y_ifSF, y_for, y_ret, y_nx, y_rt, y_bk, y_ct, y_fnR, y_fnN, y_nm, y_tp, y_tgn, y_tgc, y_tgk, v_add, v_sub, v_eqI, v_eqS, v_eqB, v_neI, v_neS, v_neB, v_lt, v_le, v_gt, v_ge, v_lenT, v_lenL, v_lenF, v_tupL, v_tupT, v_listL, v_listT, v_intI, v_intB, v_max, v_min, v_ixT, v_ixL, v_at0, v_at1, v_at2, y_lst4, y_lst5, y_lst6, y_lst7, y_tup5, y_tup6, y_sl1, y_sl1i, y_sl2, y_sl2i, y_sl3, v_slF, v_slL, v_slT, w_0, w_1, y_part, y_sl1v, y_sl1b, y_sl1n, y_sl2v, y_sl2b, y_sl2n, v_isTT, v_isTI, v_isTB, v_isTS, v_isIT, v_isII, v_isIB, v_isIS, v_isBT, v_isBI, v_isBB, v_isBS, v_isST, v_isSI, v_isSB, v_isSS, v_isN, x_rev, x_join, x_fmt, x_fstr, x_zipS, y_rev, y_join1, y_join2, y_fmt, y_fstr, y_rtS, y_zipS1, y_zipS2, v_revL, x_callF, y_callF, List.getElem?_cons_zero, List.getElem?_cons_succ, List.set_cons_zero, List.set_cons_succ, decide_true, decide_false, Int.reduceEq, Int.reduceLT, Int.reduceLE, decide_eq_true_eq, Bool.not_true, Bool.not_false, if_true, if_false, Bool.false_eq_true, b_shown, toK, txt, ofs_inj, String.reduceEq, hasp, y_pure (show pure_ (.bl false) = true from rfl), Bool.or_self, Bool.or_false, Bool.or_true, y_comp hl, cp, jj, c1, c2, c3]
theorem shownP {G : List D} : ∀ (ps : Ps) (N : Nat) (m : M), wfp ps = true → pz ps ≤ 1000 → pz ps < N → ∀ (e0 e1 e2 : Option D), compL (.tp (.cons (.nm 3) (.cons (.nm 4) .nil))) [e0, e1, e2, none, none] (evE (run tab G N) G (.bin .add (.bin .add (.var 3) (.con (.str " "))) (.callP 1 (.cons (.var 4) .nil)))) (psD ps) m = some ((ptx ps).map .str, m)
  | .nil, N, m, _, _, _, e0, e1, e2 => rfl
  | .cons s k r, N, m, h, hz, hN, e0, e1, e2 => by
    simp only [wfp, Bool.and_eq_true] at h
    simp only [pz] at hz hN
    have hk := kz_pos k
    obtain ⟨N, rfl⟩ : ∃ k, N = k + 1 := ⟨N - 1, by omega⟩
    have l1 := nm_le h.1.1
    have t := tz h.1.2
    have ih := shown_ok (G := G) k N m h.1.2 (by omega) (by omega)
    rw [psD, ptx, List.map_cons]
    refine compC (e := [e0, e1, e2, some (.str s), some (toK k)]) (by simp -implicitDefEqProofs only [x_var, y_var, x_con, x_glob, x_bin, x_neg, x_cmp, x_chain, x_isN, x_notN, x_and, x_and1, x_or, x_or1, x_not, x_ife, x_call, x_callP, x_bi, x_isi, x_listRg, x_ix, x_sl, x_tup, x_lst, x_comp, x_compIf, x_box, x_pop, x_popAt, x_append, x_nil, x_cons, x_seq, x_rng1, x_rng2, x_zip, x_asg, x_setix, x_aug, x_ex, x_if, x_for, x_while, x_ret, x_brk, x_cont, x_bnil, x_bcons, y_rt1, y_rtB, y_bin1, y_bin2, y_cmp1, y_cmp2, y_neg, y_isN, y_notN, y_andT, y_andF, y_orT, y_orF, y_not, y_ifT, y_ifF, y_chain1, y_chain2, y_chainT, y_chainF, y_chain3, y_cons1, y_cons2, y_call, y_callP, y_bi, y_isi, y_ix1, y_ix2, y_tup0, y_tup1, y_tup2, y_tup3, y_tup4, y_lst0, y_lst1, y_lst2, y_lst3, y_lc, y_box, y_pop, y_popAt1, y_popAt2, y_append1, y_append2, y_rtL, y_seq, y_seqT, y_seqL, y_rng21, y_zip1, y_zip2, y_zipT, y_zipL, y_rtE, y_asg, y_set1, y_set2, y_set3, y_aug, y_augA, y_augS, y_ex, y_ifST, y_ifSF, y_for, y_ret, y_nx, y_rt, y_bk, y_ct, y_fnR, y_fnN, y_nm, y_tp, y_tgn, y_tgc, y_tgk, v_add, v_sub, v_eqI, v_eqS, v_eqB, v_neI, v_neS, v_neB, v_lt, v_le, v_gt, v_ge, v_lenT, v_lenL, v_lenF, v_tupL, v_tupT, v_listL, v_listT, v_intI, v_intB, v_max, v_min, v_ixT, v_ixL, v_at0, v_at1, v_at2, y_lst4, y_lst5, y_lst6, y_lst7, y_tup5, y_tup6, y_sl1, y_sl1i, y_sl2, y_sl2i, y_sl3, v_slF, v_slL, v_slT, w_0, w_1, y_part, y_sl1v, y_sl1b, y_sl1n, y_sl2v, y_sl2b, y_sl2n, v_isTT, v_isTI, v_isTB, v_isTS, v_isIT, v_isII, v_isIB, v_isIS, v_isBT, v_isBI, v_isBB, v_isBS, v_isST, v_isSI, v_isSB, v_isSS, v_isN, x_rev, x_join, x_fmt, x_fstr, x_zipS, y_rev, y_join1, y_join2, y_fmt, y_fstr, y_rtS, y_zipS1, y_zipS2, v_revL, x_callF, y_callF, List.getElem?_cons_zero, List.getElem?_cons_succ, List.set_cons_zero, List.set_cons_succ, decide_true, decide_false, Int.reduceEq, Int.reduceLT, Int.reduceLE, decide_eq_true_eq, Bool.not_true, Bool.not_false, if_true, if_false, Bool.false_eq_true]) ?_ (shownP r (N + 1) m h.2 (by omega) (by omega) e0 e1 e2)
    simp -implicitDefEqProofs only [x_var, y_var, x_con, x_glob, x_bin, x_neg, x_cmp, x_chain, x_isN, x_notN, x_and, x_and1, x_or, x_or1, x_not, x_ife, x_call, x_callP, x_bi, x_isi, x_listRg, x_ix, x_sl, x_tup, x_lst, x_comp, x_compIf, x_box, x_pop, x_popAt, x_append, x_nil, x_cons, x_seq, x_rng1, x_rng2, x_zip, x_asg, x_setix, x_aug, x_ex, x_if, x_for, x_while, x_ret, x_brk, x_cont, x_bnil, x_bcons, y_rt1, y_rtB, y_bin1, y_bin2, y_cmp1, y_cmp2, y_neg, y_isN, y_notN, y_andT, y_andF, y_orT, y_orF, y_not, y_ifT, y_ifF, y_chain1, y_chain2, y_chainT, y_chainF, y_chain3, y_cons1, y_cons2, y_call, y_callP, y_bi, y_isi, y_ix1, y_ix2, y_tup0, y_tup1, y_tup2, y_tup3, y_tup4, y_lst0, y_lst1, y_lst2, y_lst3, y_lc, y_box, y_pop, y_popAt1, y_popAt2, y_append1, y_append2, y_rtL, y_seq, y_seqT, y_seqL, y_rng21, y_zip1, y_zip2, y_zipT, y_zipL, y_rtE, y_asg, y_set1, y_set2, y_set3, y_aug, y_augA, y_augS, y_ex, y_ifST, y_ifSF, y_for, y_ret, y_nx, y_rt, y_bk, y_ct, y_fnR, y_fnN, y_nm, y_tp, y_tgn, y_tgc, y_tgk, v_add, v_sub, v_eqI, v_eqS, v_eqB, v_neI, v_neS, v_neB, v_lt, v_le, v_gt, v_ge, v_lenT, v_lenL, v_lenF, v_tupL, v_tupT, v_listL, v_listT, v_intI, v_intB, v_max, v_min, v_ixT, v_ixL, v_at0, v_at1, v_at2, y_lst4, y_lst5, y_lst6, y_lst7, y_tup5, y_tup6, y_sl1, y_sl1i, y_sl2, y_sl2i, y_sl3, v_slF, v_slL, v_slT, w_0, w_1, y_part, y_sl1v, y_sl1b, y_sl1n, y_sl2v, y_sl2b, y_sl2n, v_isTT, v_isTI, v_isTB, v_isTS, v_isIT, v_isII, v_isIB, v_isIS, v_isBT, v_isBI, v_isBB, v_isBS, v_isST, v_isSI, v_isSB, v_isSS, v_isN, x_rev, x_join, x_fmt, x_fstr, x_zipS, y_rev, y_join1, y_join2, y_fmt, y_fstr, y_rtS, y_zipS1, y_zipS2, v_revL, x_callF, y_callF, List.getElem?_cons_zero, List.getElem?_cons_succ, List.set_cons_zero, List.set_cons_succ, decide_true, decide_false, Int.reduceEq, Int.reduceLT, Int.reduceLE, decide_eq_true_eq, Bool.not_true, Bool.not_false, if_true, if_false, Bool.false_eq_true, ih, y_pure (show pure_ (.str (txt k)) = true from rfl), v_catS (z := s) (w := " ") (lim10 (by simp only [wlen]; omega)), v_catS (z := s ++ " ") (w := txt k) (lim10 (by simp only [slen, wlen]; omega))]
theorem shownK {G : List D} : ∀ (ps : Ks) (N : Nat) (m : M), wfk ps = true → fz ps ≤ 1000 → fz ps < N → ∀ (e0 e1 e3 e4 : Option D), compL (.nm 2) [e0, e1, none, e3, e4] (evE (run tab G N) G (.callP 1 (.cons (.var 2) .nil))) (ksD ps) m = some ((ktx ps).map .str, m)
  | .nil, N, m, _, _, _, e0, e1, e3, e4 => rfl
  | .cons k r, N, m, h, hz, hN, e0, e1, e3, e4 => by
    simp only [wfk, Bool.and_eq_true] at h
    simp only [fz] at hz hN
    have hk := kz_pos k
    obtain ⟨N, rfl⟩ : ∃ k, N = k + 1 := ⟨N - 1, by omega⟩
    have ih := shown_ok (G := G) k N m h.1 (by omega) (by omega)
    rw [ksD, ktx, List.map_cons]
    refine compC (e := [e0, e1, some (toK k), e3, e4]) (by simp -implicitDefEqProofs only [x_var, y_var, x_con, x_glob, x_bin, x_neg, x_cmp, x_chain, x_isN, x_notN, x_and, x_and1, x_or, x_or1, x_not, x_ife, x_call, x_callP, x_bi, x_isi, x_listRg, x_ix, x_sl, x_tup, x_lst, x_comp, x_compIf, x_box, x_pop, x_popAt, x_append, x_nil, x_cons, x_seq, x_rng1, x_rng2, x_zip, x_asg, x_setix, x_aug, x_ex, x_if, x_for, x_while, x_ret, x_brk, x_cont, x_bnil, x_bcons, y_rt1, y_rtB, y_bin1, y_bin2, y_cmp1, y_cmp2, y_neg, y_isN, y_notN, y_andT, y_andF, y_orT, y_orF, y_not, y_ifT, y_ifF, y_chain1, y_chain2, y_chainT, y_chainF, y_chain3, y_cons1, y_cons2, y_call, y_callP, y_bi, y_isi, y_ix1, y_ix2, y_tup0, y_tup1, y_tup2, y_tup3, y_tup4, y_lst0, y_lst1, y_lst2, y_lst3, y_lc, y_box, y_pop, y_popAt1, y_popAt2, y_append1, y_append2, y_rtL, y_seq, y_seqT, y_seqL, y_rng21, y_zip1, y_zip2, y_zipT, y_zipL, y_rtE, y_asg, y_set1, y_set2, y_set3, y_aug, y_augA, y_augS, y_ex, y_ifST, y_ifSF, y_for, y_ret, y_nx, y_rt, y_bk, y_ct, y_fnR, y_fnN, y_nm, y_tp, y_tgn, y_tgc, y_tgk, v_add, v_sub, v_eqI, v_eqS, v_eqB, v_neI, v_neS, v_neB, v_lt, v_le, v_gt, v_ge, v_lenT, v_lenL, v_lenF, v_tupL, v_tupT, v_listL, v_listT, v_intI, v_intB, v_max, v_min, v_ixT, v_ixL, v_at0, v_at1, v_at2, y_lst4, y_lst5, y_lst6, y_lst7, y_tup5, y_tup6, y_sl1, y_sl1i, y_sl2, y_sl2i, y_sl3, v_slF, v_slL, v_slT, w_0, w_1, y_part, y_sl1v, y_sl1b, y_sl1n, y_sl2v, y_sl2b, y_sl2n, v_isTT, v_isTI, v_isTB, v_isTS, v_isIT, v_isII, v_isIB, v_isIS, v_isBT, v_isBI, v_isBB, v_isBS, v_isST, v_isSI, v_isSB, v_isSS, v_isN, x_rev, x_join, x_fmt, x_fstr, x_zipS, y_rev, y_join1, y_join2, y_fmt, y_fstr, y_rtS, y_zipS1, y_zipS2, v_revL, x_callF, y_callF, List.getElem?_cons_zero, List.getElem?_cons_succ, List.set_cons_zero, List.set_cons_succ, decide_true, decide_false, Int.reduceEq, Int.reduceLT, Int.reduceLE, decide_eq_true_eq, Bool.not_true, Bool.not_false, if_true, if_false, Bool.false_eq_true]) ?_ (shownK r (N + 1) m h.2 (by omega) (by omega) e0 e1 e3 e4)
    simp -implicitDefEqProofs only [x_var, y_var, x_con, x_glob, x_bin, x_neg, x_cmp, x_chain, x_isN, x_notN, x_and, x_and1, x_or, x_or1, x_not, x_ife, x_call, x_callP, x_bi, x_isi, x_listRg, x_ix, x_sl, x_tup, x_lst, x_comp, x_compIf, x_box, x_pop, x_popAt, x_append, x_nil, x_cons, x_seq, x_rng1, x_rng2, x_zip, x_asg, x_setix, x_aug, x_ex, x_if, x_for, x_while, x_ret, x_brk, x_cont, x_bnil, x_bcons, y_rt1, y_rtB, y_bin1, y_bin2, y_cmp1, y_cmp2, y_neg, y_isN, y_notN, y_andT, y_andF, y_orT, y_orF, y_not, y_ifT, y_ifF, y_chain1, y_chain2, y_chainT, y_chainF, y_chain3, y_cons1, y_cons2, y_call, y_callP, y_bi, y_isi, y_ix1, y_ix2, y_tup0, y_tup1, y_tup2, y_tup3, y_tup4, y_lst0, y_lst1, y_lst2, y_lst3, y_lc, y_box, y_pop, y_popAt1, y_popAt2, y_append1, y_append2, y_rtL, y_seq, y_seqT, y_seqL, y_rng21, y_zip1, y_zip2, y_zipT, y_zipL, y_rtE, y_asg, y_set1, y_set2, y_set3, y_aug, y_augA, y_augS, y_ex, y_ifST, y_ifSF, y_for, y_ret, y_nx, y_rt, y_bk, y_ct, y_fnR, y_fnN, y_nm, y_tp, y_tgn, y_tgc, y_tgk, v_add, v_sub, v_eqI, v_eqS, v_eqB, v_neI, v_neS, v_neB, v_lt, v_le, v_gt, v_ge, v_lenT, v_lenL, v_lenF, v_tupL, v_tupT, v_listL, v_listT, v_intI, v_intB, v_max, v_min, v_ixT, v_ixL, v_at0, v_at1, v_at2, y_lst4, y_lst5, y_lst6, y_lst7, y_tup5, y_tup6, y_sl1, y_sl1i, y_sl2, y_sl2i, y_sl3, v_slF, v_slL, v_slT, w_0, w_1, y_part, y_sl1v, y_sl1b, y_sl1n, y_sl2v, y_sl2b, y_sl2n, v_isTT, v_isTI, v_isTB, v_isTS, v_isIT, v_isII, v_isIB, v_isIS, v_isBT, v_isBI, v_isBB, v_isBS, v_isST, v_isSI, v_isSB, v_isSS, v_isN, x_rev, x_join, x_fmt, x_fstr, x_zipS, y_rev, y_join1, y_join2, y_fmt, y_fstr, y_rtS, y_zipS1, y_zipS2, v_revL, x_callF, y_callF, List.getElem?_cons_zero, List.getElem?_cons_succ, List.set_cons_zero, List.set_cons_succ, decide_true, decide_false, Int.reduceEq, Int.reduceLT, Int.reduceLE, decide_eq_true_eq, Bool.not_true, Bool.not_false, if_true, if_false, Bool.false_eq_true, ih, y_pure (show pure_ (.str (txt k)) = true from rfl)]
end
mutual
theorem text_ok {G : List D} : ∀ (k : Kd) (N : Nat) (m : M), wf k = true → kz k ≤ 1000 → kz k ≤ N → run tab G (N + 1) 12 [toK k] m = some (.str (txt k), m)
  | .truth, N, m, _, _, hN => by
    simp only [kz] at hN
    rw [run__law_text, r__law_text]
    obtain ⟨N, rfl⟩ : ∃ k, N = k + 1 := ⟨N - 1, by omega⟩
    simp -implicitDefEqProofs only [x_var, y_var, x_con, x_glob, x_bin, x_neg, x_cmp, x_chain, x_isN, x_notN, x_and, x_and1, x_or, x_or1, x_not, x_ife, x_call, x_callP, x_bi, x_isi, x_listRg, x_ix, x_sl, x_tup, x_lst, x_comp, x_compIf, x_box, x_pop, x_popAt, x_append, x_nil, x_cons, x_seq, x_rng1, x_rng2, x_zip, x_asg, x_setix, x_aug, x_ex, x_if, x_for, x_while, x_ret, x_brk, x_cont, x_bnil, x_bcons, y_rt1, y_rtB, y_bin1, y_bin2, y_cmp1, y_cmp2, y_neg, y_isN, y_notN, y_andT, y_andF, y_orT, y_orF, y_not, y_ifT, y_ifF, y_chain1, y_chain2, y_chainT, y_chainF, y_chain3, y_cons1, y_cons2, y_call, y_callP, y_bi, y_isi, y_ix1, y_ix2, y_tup0, y_tup1, y_tup2, y_tup3, y_tup4, y_lst0, y_lst1, y_lst2, y_lst3, y_lc, y_box, y_pop, y_popAt1, y_popAt2, y_append1, y_append2, y_rtL, y_seq, y_seqT, y_seqL, y_rng21, y_zip1, y_zip2, y_zipT, y_zipL, y_rtE, y_asg, y_set1, y_set2, y_set3, y_aug, y_augA, y_augS, y_ex, y_ifST, y_ifSF, y_for, y_ret, y_nx, y_rt, y_bk, y_ct, y_fnR, y_fnN, y_nm, y_tp, y_tgn, y_tgc, y_tgk, v_add, v_sub, v_eqI, v_eqS, v_eqB, v_neI, v_neS, v_neB, v_lt, v_le, v_gt, v_ge, v_lenT, v_lenL, v_lenF, v_tupL, v_tupT, v_listL, v_listT, v_intI, v_intB, v_max, v_min, v_ixT, v_ixL, v_at0, v_at1, v_at2, y_lst4, y_lst5, y_lst6, y_lst7, y_tup5, y_tup6, y_sl1, y_sl1i, y_sl2, y_sl2i, y_sl3, v_slF, v_slL, v_slT, w_0, w_1, y_part, y_sl1v, y_sl1b, y_sl1n, y_sl2v, y_sl2b, y_sl2n, v_isTT, v_isTI, v_isTB, v_isTS, v_isIT, v_isII, v_isIB, v_isIS, v_isBT, v_isBI, v_isBB, v_isBS, v_isST, v_isSI, v_isSB, v_isSS, v_isN, x_rev, x_join, x_fmt, x_fstr, x_zipS, y_rev, y_join1, y_join2, y_fmt, y_fstr, y_rtS, y_zipS1, y_zipS2, v_revL, x_callF, y_callF, List.getElem?_cons_zero, List.getElem?_cons_succ, List.set_cons_zero, List.set_cons_succ, decide_true, decide_false, Int.reduceEq, Int.reduceLT, Int.reduceLE, decide_eq_true_eq, Bool.not_true, Bool.not_false, if_true, if_false, Bool.false_eq_true, b__law_text, toK, txt, ofs_inj, String.reduceEq, Bool.or_self, Bool.or_false, Bool.or_true]
  | .num i b, N, m, h, _, hN => by
    have hb : b < 100 := by simpa [wf] using h
    have := sN_le hb
    have l1 := wNum_le i
    rw [run__law_text, r__law_text]
    cases i
    · simp -implicitDefEqProofs only [x_var, y_var, x_con, x_glob, x_bin, x_neg, x_cmp, x_chain, x_isN, x_notN, x_and, x_and1, x_or, x_or1, x_not, x_ife, x_call, x_callP, x_bi, x_isi, x_listRg, x_ix, x_sl, x_tup, x_lst, x_comp, x_compIf, x_box, x_pop, x_popAt, x_append, x_nil, x_cons, x_seq, x_rng1, x_rng2, x_zip, x_asg, x_setix, x_aug, x_ex, x_if, x_for, x_while, x_ret, x_brk, x_cont, x_bnil, x_bcons, y_rt1, y_rtB, y_bin1, y_bin2, y_cmp1, y_cmp2, y_neg, y_isN, y_notN, y_andT, y_andF, y_orT, y_orF, y_not, y_ifT, y_ifF, y_chain1, y_chain2, y_chainT, y_chainF, y_chain3, y_cons1, y_cons2, y_call, y_callP, y_bi, y_isi, y_ix1, y_ix2, y_tup0, y_tup1, y_tup2, y_tup3, y_tup4, y_lst0, y_lst1, y_lst2, y_lst3, y_lc, y_box, y_pop, y_popAt1, y_popAt2, y_append1, y_append2, y_rtL, y_seq, y_seqT, y_seqL, y_rng21, y_zip1, y_zip2, y_zipT, y_zipL, y_rtE, y_asg, y_set1, y_set2, y_set3, y_aug, y_augA, y_augS, y_ex, y_ifST, y_ifSF, y_for, y_ret, y_nx, y_rt, y_bk, y_ct, y_fnR, y_fnN, y_nm, y_tp, y_tgn, y_tgc, y_tgk, v_add, v_sub, v_eqI, v_eqS, v_eqB, v_neI, v_neS, v_neB, v_lt, v_le, v_gt, v_ge, v_lenT, v_lenL, v_lenF, v_tupL, v_tupT, v_listL, v_listT, v_intI, v_intB, v_max, v_min, v_ixT, v_ixL, v_at0, v_at1, v_at2, y_lst4, y_lst5, y_lst6, y_lst7, y_tup5, y_tup6, y_sl1, y_sl1i, y_sl2, y_sl2i, y_sl3, v_slF, v_slL, v_slT, w_0, w_1, y_part, y_sl1v, y_sl1b, y_sl1n, y_sl2v, y_sl2b, y_sl2n, v_isTT, v_isTI, v_isTB, v_isTS, v_isIT, v_isII, v_isIB, v_isIS, v_isBT, v_isBI, v_isBB, v_isBS, v_isST, v_isSI, v_isSB, v_isSS, v_isN, x_rev, x_join, x_fmt, x_fstr, x_zipS, y_rev, y_join1, y_join2, y_fmt, y_fstr, y_rtS, y_zipS1, y_zipS2, v_revL, x_callF, y_callF, List.getElem?_cons_zero, List.getElem?_cons_succ, List.set_cons_zero, List.set_cons_succ, decide_true, decide_false, Int.reduceEq, Int.reduceLT, Int.reduceLE, decide_eq_true_eq, Bool.not_true, Bool.not_false, if_true, if_false, Bool.false_eq_true, b__law_text, toK, txt, wNum_f, ofs_inj, String.reduceEq, st_i hb, v_catS (z := "nat") (w := sN b) (lim10 (by rw [← wNum_f]; omega))]
    · simp -implicitDefEqProofs only [x_var, y_var, x_con, x_glob, x_bin, x_neg, x_cmp, x_chain, x_isN, x_notN, x_and, x_and1, x_or, x_or1, x_not, x_ife, x_call, x_callP, x_bi, x_isi, x_listRg, x_ix, x_sl, x_tup, x_lst, x_comp, x_compIf, x_box, x_pop, x_popAt, x_append, x_nil, x_cons, x_seq, x_rng1, x_rng2, x_zip, x_asg, x_setix, x_aug, x_ex, x_if, x_for, x_while, x_ret, x_brk, x_cont, x_bnil, x_bcons, y_rt1, y_rtB, y_bin1, y_bin2, y_cmp1, y_cmp2, y_neg, y_isN, y_notN, y_andT, y_andF, y_orT, y_orF, y_not, y_ifT, y_ifF, y_chain1, y_chain2, y_chainT, y_chainF, y_chain3, y_cons1, y_cons2, y_call, y_callP, y_bi, y_isi, y_ix1, y_ix2, y_tup0, y_tup1, y_tup2, y_tup3, y_tup4, y_lst0, y_lst1, y_lst2, y_lst3, y_lc, y_box, y_pop, y_popAt1, y_popAt2, y_append1, y_append2, y_rtL, y_seq, y_seqT, y_seqL, y_rng21, y_zip1, y_zip2, y_zipT, y_zipL, y_rtE, y_asg, y_set1, y_set2, y_set3, y_aug, y_augA, y_augS, y_ex, y_ifST, y_ifSF, y_for, y_ret, y_nx, y_rt, y_bk, y_ct, y_fnR, y_fnN, y_nm, y_tp, y_tgn, y_tgc, y_tgk, v_add, v_sub, v_eqI, v_eqS, v_eqB, v_neI, v_neS, v_neB, v_lt, v_le, v_gt, v_ge, v_lenT, v_lenL, v_lenF, v_tupL, v_tupT, v_listL, v_listT, v_intI, v_intB, v_max, v_min, v_ixT, v_ixL, v_at0, v_at1, v_at2, y_lst4, y_lst5, y_lst6, y_lst7, y_tup5, y_tup6, y_sl1, y_sl1i, y_sl2, y_sl2i, y_sl3, v_slF, v_slL, v_slT, w_0, w_1, y_part, y_sl1v, y_sl1b, y_sl1n, y_sl2v, y_sl2b, y_sl2n, v_isTT, v_isTI, v_isTB, v_isTS, v_isIT, v_isII, v_isIB, v_isIS, v_isBT, v_isBI, v_isBB, v_isBS, v_isST, v_isSI, v_isSB, v_isSS, v_isN, x_rev, x_join, x_fmt, x_fstr, x_zipS, y_rev, y_join1, y_join2, y_fmt, y_fstr, y_rtS, y_zipS1, y_zipS2, v_revL, x_callF, y_callF, List.getElem?_cons_zero, List.getElem?_cons_succ, List.set_cons_zero, List.set_cons_succ, decide_true, decide_false, Int.reduceEq, Int.reduceLT, Int.reduceLE, decide_eq_true_eq, Bool.not_true, Bool.not_false, if_true, if_false, Bool.false_eq_true, b__law_text, toK, txt, wNum_t, ofs_inj, String.reduceEq, st_i hb, v_catS (z := "int") (w := sN b) (lim10 (by rw [← wNum_t]; omega))]
  | .hole s, N, m, h, _, hN => by
    simp only [kz] at hN
    have := nm_le (s := s) h
    rw [run__law_text, r__law_text]
    obtain ⟨N, rfl⟩ : ∃ k, N = k + 1 := ⟨N - 1, by omega⟩
    simp -implicitDefEqProofs only [x_var, y_var, x_con, x_glob, x_bin, x_neg, x_cmp, x_chain, x_isN, x_notN, x_and, x_and1, x_or, x_or1, x_not, x_ife, x_call, x_callP, x_bi, x_isi, x_listRg, x_ix, x_sl, x_tup, x_lst, x_comp, x_compIf, x_box, x_pop, x_popAt, x_append, x_nil, x_cons, x_seq, x_rng1, x_rng2, x_zip, x_asg, x_setix, x_aug, x_ex, x_if, x_for, x_while, x_ret, x_brk, x_cont, x_bnil, x_bcons, y_rt1, y_rtB, y_bin1, y_bin2, y_cmp1, y_cmp2, y_neg, y_isN, y_notN, y_andT, y_andF, y_orT, y_orF, y_not, y_ifT, y_ifF, y_chain1, y_chain2, y_chainT, y_chainF, y_chain3, y_cons1, y_cons2, y_call, y_callP, y_bi, y_isi, y_ix1, y_ix2, y_tup0, y_tup1, y_tup2, y_tup3, y_tup4, y_lst0, y_lst1, y_lst2, y_lst3, y_lc, y_box, y_pop, y_popAt1, y_popAt2, y_append1, y_append2, y_rtL, y_seq, y_seqT, y_seqL, y_rng21, y_zip1, y_zip2, y_zipT, y_zipL, y_rtE, y_asg, y_set1, y_set2, y_set3, y_aug, y_augA, y_augS, y_ex, y_ifST, y_ifSF, y_for, y_ret, y_nx, y_rt, y_bk, y_ct, y_fnR, y_fnN, y_nm, y_tp, y_tgn, y_tgc, y_tgk, v_add, v_sub, v_eqI, v_eqS, v_eqB, v_neI, v_neS, v_neB, v_lt, v_le, v_gt, v_ge, v_lenT, v_lenL, v_lenF, v_tupL, v_tupT, v_listL, v_listT, v_intI, v_intB, v_max, v_min, v_ixT, v_ixL, v_at0, v_at1, v_at2, y_lst4, y_lst5, y_lst6, y_lst7, y_tup5, y_tup6, y_sl1, y_sl1i, y_sl2, y_sl2i, y_sl3, v_slF, v_slL, v_slT, w_0, w_1, y_part, y_sl1v, y_sl1b, y_sl1n, y_sl2v, y_sl2b, y_sl2n, v_isTT, v_isTI, v_isTB, v_isTS, v_isIT, v_isII, v_isIB, v_isIS, v_isBT, v_isBI, v_isBB, v_isBS, v_isST, v_isSI, v_isSB, v_isSS, v_isN, x_rev, x_join, x_fmt, x_fstr, x_zipS, y_rev, y_join1, y_join2, y_fmt, y_fstr, y_rtS, y_zipS1, y_zipS2, v_revL, x_callF, y_callF, List.getElem?_cons_zero, List.getElem?_cons_succ, List.set_cons_zero, List.set_cons_succ, decide_true, decide_false, Int.reduceEq, Int.reduceLT, Int.reduceLE, decide_eq_true_eq, Bool.not_true, Bool.not_false, if_true, if_false, Bool.false_eq_true, b__law_text, toK, txt, ofs_inj, String.reduceEq, Bool.or_self, Bool.or_false, Bool.or_true, v_catS (z := "?") (w := s) (lim10 (by simp only [wlen]; omega))]
  | .rcd v ps, N, m, h, hz, hN => by
    have hw : wfp ps = true := by simpa [wf] using h
    have l1 := wRec_le v
    have l2 := tzp hw
    have l3 := joinl (ptx ps)
    have l4 := ptx_len (ps := ps)
    simp only [kz] at hz hN
    obtain ⟨N, rfl⟩ : ∃ k, N = k + 1 := ⟨N - 1, by omega⟩
    have hl : (psD ps).length ≤ lim := lim10 (by omega)
    have c1 := v_catS (m := m) (z := wRec v) (w := "(") (lim10 (by simp only [wlen]; omega))
    have c2 := v_catS (m := m) (z := wRec v ++ "(") (w := Str.join ", " (ptx ps)) (lim10 (by simp only [slen, wlen]; omega))
    have c3 := v_catS (m := m) (z := wRec v ++ "(" ++ Str.join ", " (ptx ps)) (w := ")") (lim10 (by simp only [slen, wlen]; omega))
    have cp := textP (G := G) ps (N + 1) m hw (by omega) (by omega) (some (toK (.rcd v ps))) (some (.str (wRec v))) none
    have jj := jn_ok (m := m) (l := ptx ps) (lim10 (by omega))
    rw [run__law_text, r__law_text]
    cases v
    · rw [wRec_f] at c1 c2 c3 cp
      simp only [toK, wRec_f] at cp
      simp -implicitDefEqProofs only [x_var, y_var, x_con, x_glob, x_bin, x_neg, x_cmp, x_chain, x_isN, x_notN, x_and, x_and1, x_or, x_or1, x_not, x_ife, x_call, x_callP, x_bi, x_isi, x_listRg, x_ix, x_sl, x_tup, x_lst, x_comp, x_compIf, x_box, x_pop, x_popAt, x_append, x_nil, x_cons, x_seq, x_rng1, x_rng2, x_zip, x_asg, x_setix, x_aug, x_ex, x_if, x_for, x_while, x_ret, x_brk, x_cont, x_bnil, x_bcons, y_rt1, y_rtB, y_bin1, y_bin2, y_cmp1, y_cmp2, y_neg, y_isN, y_notN, y_andT, y_andF, y_orT, y_orF, y_not, y_ifT, y_ifF, y_chain1, y_chain2, y_chainT, y_chainF, y_chain3, y_cons1, y_cons2, y_call, y_callP, y_bi, y_isi, y_ix1, y_ix2, y_tup0, y_tup1, y_tup2, y_tup3, y_tup4, y_lst0, y_lst1, y_lst2, y_lst3, y_lc, y_box, y_pop, y_popAt1, y_popAt2, y_append1, y_append2, y_rtL, y_seq, y_seqT, y_seqL, y_rng21, y_zip1, y_zip2, y_zipT, y_zipL, y_rtE, y_asg, y_set1, y_set2, y_set3, y_aug, y_augA, y_augS, y_ex, y_ifST, y_ifSF, y_for, y_ret, y_nx, y_rt, y_bk, y_ct, y_fnR, y_fnN, y_nm, y_tp, y_tgn, y_tgc, y_tgk, v_add, v_sub, v_eqI, v_eqS, v_eqB, v_neI, v_neS, v_neB, v_lt, v_le, v_gt, v_ge, v_lenT, v_lenL, v_lenF, v_tupL, v_tupT, v_listL, v_listT, v_intI, v_intB, v_max, v_min, v_ixT, v_ixL, v_at0, v_at1, v_at2, y_lst4, y_lst5, y_lst6, y_lst7, y_tup5, y_tup6, y_sl1, y_sl1i, y_sl2, y_sl2i, y_sl3, v_slF, v_slL, v_slT, w_0, w_1, y_part, y_sl1v, y_sl1b, y_sl1n, y_sl2v, y_sl2b, y_sl2n, v_isTT, v_isTI, v_isTB, v_isTS, v_isIT, v_isII, v_isIB, v_isIS, v_isBT, v_isBI, v_isBB, v_isBS, v_isST, v_isSI, v_isSB, v_isSS, v_isN, x_rev, x_join, x_fmt, x_fstr, x_zipS, y_rev, y_join1, y_join2, y_fmt, y_fstr, y_rtS, y_zipS1, y_zipS2, v_revL, x_callF, y_callF, List.getElem?_cons_zero, List.getElem?_cons_succ, List.set_cons_zero, List.set_cons_succ, decide_true, decide_false, Int.reduceEq, Int.reduceLT, Int.reduceLE, decide_eq_true_eq, Bool.not_true, Bool.not_false, if_true, if_false, Bool.false_eq_true, b__law_text, toK, txt, wRec_f, ofs_inj, String.reduceEq, Bool.or_false, Bool.or_true, Bool.true_or, y_comp hl, cp, jj, c1, c2, c3]
    · rw [wRec_t] at c1 c2 c3 cp
      simp only [toK, wRec_t] at cp
      simp -implicitDefEqProofs only [x_var, y_var, x_con, x_glob, x_bin, x_neg, x_cmp, x_chain, x_isN, x_notN, x_and, x_and1, x_or, x_or1, x_not, x_ife, x_call, x_callP, x_bi, x_isi, x_listRg, x_ix, x_sl, x_tup, x_lst, x_comp, x_compIf, x_box, x_pop, x_popAt, x_append, x_nil, x_cons, x_seq, x_rng1, x_rng2, x_zip, x_asg, x_setix, x_aug, x_ex, x_if, x_for, x_while, x_ret, x_brk, x_cont, x_bnil, x_bcons, y_rt1, y_rtB, y_bin1, y_bin2, y_cmp1, y_cmp2, y_neg, y_isN, y_notN, y_andT, y_andF, y_orT, y_orF, y_not, y_ifT, y_ifF, y_chain1, y_chain2, y_chainT, y_chainF, y_chain3, y_cons1, y_cons2, y_call, y_callP, y_bi, y_isi, y_ix1, y_ix2, y_tup0, y_tup1, y_tup2, y_tup3, y_tup4, y_lst0, y_lst1, y_lst2, y_lst3, y_lc, y_box, y_pop, y_popAt1, y_popAt2, y_append1, y_append2, y_rtL, y_seq, y_seqT, y_seqL, y_rng21, y_zip1, y_zip2, y_zipT, y_zipL, y_rtE, y_asg, y_set1, y_set2, y_set3, y_aug, y_augA, y_augS, y_ex, y_ifST, y_ifSF, y_for, y_ret, y_nx, y_rt, y_bk, y_ct, y_fnR, y_fnN, y_nm, y_tp, y_tgn, y_tgc, y_tgk, v_add, v_sub, v_eqI, v_eqS, v_eqB, v_neI, v_neS, v_neB, v_lt, v_le, v_gt, v_ge, v_lenT, v_lenL, v_lenF, v_tupL, v_tupT, v_listL, v_listT, v_intI, v_intB, v_max, v_min, v_ixT, v_ixL, v_at0, v_at1, v_at2, y_lst4, y_lst5, y_lst6, y_lst7, y_tup5, y_tup6, y_sl1, y_sl1i, y_sl2, y_sl2i, y_sl3, v_slF, v_slL, v_slT, w_0, w_1, y_part, y_sl1v, y_sl1b, y_sl1n, y_sl2v, y_sl2b, y_sl2n, v_isTT, v_isTI, v_isTB, v_isTS, v_isIT, v_isII, v_isIB, v_isIS, v_isBT, v_isBI, v_isBB, v_isBS, v_isST, v_isSI, v_isSB, v_isSS, v_isN, x_rev, x_join, x_fmt, x_fstr, x_zipS, y_rev, y_join1, y_join2, y_fmt, y_fstr, y_rtS, y_zipS1, y_zipS2, v_revL, x_callF, y_callF, List.getElem?_cons_zero, List.getElem?_cons_succ, List.set_cons_zero, List.set_cons_succ, decide_true, decide_false, Int.reduceEq, Int.reduceLT, Int.reduceLE, decide_eq_true_eq, Bool.not_true, Bool.not_false, if_true, if_false, Bool.false_eq_true, b__law_text, toK, txt, wRec_t, ofs_inj, String.reduceEq, Bool.or_false, Bool.or_true, Bool.true_or, Bool.false_or, y_comp hl, cp, jj, c1, c2, c3]
  | .row n k, N, m, h, hz, hN => by
    simp only [wf, Bool.and_eq_true, decide_eq_true_eq] at h
    simp only [kz] at hz hN
    obtain ⟨N, rfl⟩ : ∃ k, N = k + 1 := ⟨N - 1, by omega⟩
    have := sN_le h.1
    have t := tz h.2
    have ih := text_ok (G := G) k N m h.2 (by omega) (by omega)
    rw [run__law_text, r__law_text]
    simp -implicitDefEqProofs only [x_var, y_var, x_con, x_glob, x_bin, x_neg, x_cmp, x_chain, x_isN, x_notN, x_and, x_and1, x_or, x_or1, x_not, x_ife, x_call, x_callP, x_bi, x_isi, x_listRg, x_ix, x_sl, x_tup, x_lst, x_comp, x_compIf, x_box, x_pop, x_popAt, x_append, x_nil, x_cons, x_seq, x_rng1, x_rng2, x_zip, x_asg, x_setix, x_aug, x_ex, x_if, x_for, x_while, x_ret, x_brk, x_cont, x_bnil, x_bcons, y_rt1, y_rtB, y_bin1, y_bin2, y_cmp1, y_cmp2, y_neg, y_isN, y_notN, y_andT, y_andF, y_orT, y_orF, y_not, y_ifT, y_ifF, y_chain1, y_chain2, y_chainT, y_chainF, y_chain3, y_cons1, y_cons2, y_call, y_callP, y_bi, y_isi, y_ix1, y_ix2, y_tup0, y_tup1, y_tup2, y_tup3, y_tup4, y_lst0, y_lst1, y_lst2, y_lst3, y_lc, y_box, y_pop, y_popAt1, y_popAt2, y_append1, y_append2, y_rtL, y_seq, y_seqT, y_seqL, y_rng21, y_zip1, y_zip2, y_zipT, y_zipL, y_rtE, y_asg, y_set1, y_set2, y_set3, y_aug, y_augA, y_augS, y_ex, y_ifST, y_ifSF, y_for, y_ret, y_nx, y_rt, y_bk, y_ct, y_fnR, y_fnN, y_nm, y_tp, y_tgn, y_tgc, y_tgk, v_add, v_sub, v_eqI, v_eqS, v_eqB, v_neI, v_neS, v_neB, v_lt, v_le, v_gt, v_ge, v_lenT, v_lenL, v_lenF, v_tupL, v_tupT, v_listL, v_listT, v_intI, v_intB, v_max, v_min, v_ixT, v_ixL, v_at0, v_at1, v_at2, y_lst4, y_lst5, y_lst6, y_lst7, y_tup5, y_tup6, y_sl1, y_sl1i, y_sl2, y_sl2i, y_sl3, v_slF, v_slL, v_slT, w_0, w_1, y_part, y_sl1v, y_sl1b, y_sl1n, y_sl2v, y_sl2b, y_sl2n, v_isTT, v_isTI, v_isTB, v_isTS, v_isIT, v_isII, v_isIB, v_isIS, v_isBT, v_isBI, v_isBB, v_isBS, v_isST, v_isSI, v_isSB, v_isSS, v_isN, x_rev, x_join, x_fmt, x_fstr, x_zipS, y_rev, y_join1, y_join2, y_fmt, y_fstr, y_rtS, y_zipS1, y_zipS2, v_revL, x_callF, y_callF, List.getElem?_cons_zero, List.getElem?_cons_succ, List.set_cons_zero, List.set_cons_succ, decide_true, decide_false, Int.reduceEq, Int.reduceLT, Int.reduceLE, decide_eq_true_eq, Bool.not_true, Bool.not_false, if_true, if_false, Bool.false_eq_true, b__law_text, toK, txt, ofs_inj, String.reduceEq, Bool.or_self, Bool.or_false, Bool.or_true, st_i h.1, v_catS (z := "row ") (w := sN n) (lim10 (by simp only [wlen]; omega)), v_catS (z := "row " ++ sN n) (w := " ") (lim10 (by simp only [slen, wlen]; omega)), ih, y_pure (show pure_ (.str (txt k)) = true from rfl), v_catS (z := "row " ++ sN n ++ " ") (w := txt k) (lim10 (by simp only [slen, wlen]; omega))]
  | .wrap b k, N, m, h, hz, hN => by
    have h : wf k = true := h
    simp only [kz] at hz hN
    obtain ⟨N, rfl⟩ : ∃ k, N = k + 1 := ⟨N - 1, by omega⟩
    have l1 := wWrap_le b
    have t := tz h
    have ih := text_ok (G := G) k N m h (by omega) (by omega)
    have c1 := v_catS (m := m) (z := wWrap b) (w := " ") (lim10 (by simp only [wlen]; omega))
    have c2 := v_catS (m := m) (z := wWrap b ++ " ") (w := txt k) (lim10 (by simp only [slen, wlen]; omega))
    rw [run__law_text, r__law_text]
    cases b
    · rw [wWrap_f] at c1 c2
      simp -implicitDefEqProofs only [x_var, y_var, x_con, x_glob, x_bin, x_neg, x_cmp, x_chain, x_isN, x_notN, x_and, x_and1, x_or, x_or1, x_not, x_ife, x_call, x_callP, x_bi, x_isi, x_listRg, x_ix, x_sl, x_tup, x_lst, x_comp, x_compIf, x_box, x_pop, x_popAt, x_append, x_nil, x_cons, x_seq, x_rng1, x_rng2, x_zip, x_asg, x_setix, x_aug, x_ex, x_if, x_for, x_while, x_ret, x_brk, x_cont, x_bnil, x_bcons, y_rt1, y_rtB, y_bin1, y_bin2, y_cmp1, y_cmp2, y_neg, y_isN, y_notN, y_andT, y_andF, y_orT, y_orF, y_not, y_ifT, y_ifF, y_chain1, y_chain2, y_chainT, y_chainF, y_chain3, y_cons1, y_cons2, y_call, y_callP, y_bi, y_isi, y_ix1, y_ix2, y_tup0, y_tup1, y_tup2, y_tup3, y_tup4, y_lst0, y_lst1, y_lst2, y_lst3, y_lc, y_box, y_pop, y_popAt1, y_popAt2, y_append1, y_append2, y_rtL, y_seq, y_seqT, y_seqL, y_rng21, y_zip1, y_zip2, y_zipT, y_zipL, y_rtE, y_asg, y_set1, y_set2, y_set3, y_aug, y_augA, y_augS, y_ex, y_ifST, y_ifSF, y_for, y_ret, y_nx, y_rt, y_bk, y_ct, y_fnR, y_fnN, y_nm, y_tp, y_tgn, y_tgc, y_tgk, v_add, v_sub, v_eqI, v_eqS, v_eqB, v_neI, v_neS, v_neB, v_lt, v_le, v_gt, v_ge, v_lenT, v_lenL, v_lenF, v_tupL, v_tupT, v_listL, v_listT, v_intI, v_intB, v_max, v_min, v_ixT, v_ixL, v_at0, v_at1, v_at2, y_lst4, y_lst5, y_lst6, y_lst7, y_tup5, y_tup6, y_sl1, y_sl1i, y_sl2, y_sl2i, y_sl3, v_slF, v_slL, v_slT, w_0, w_1, y_part, y_sl1v, y_sl1b, y_sl1n, y_sl2v, y_sl2b, y_sl2n, v_isTT, v_isTI, v_isTB, v_isTS, v_isIT, v_isII, v_isIB, v_isIS, v_isBT, v_isBI, v_isBB, v_isBS, v_isST, v_isSI, v_isSB, v_isSS, v_isN, x_rev, x_join, x_fmt, x_fstr, x_zipS, y_rev, y_join1, y_join2, y_fmt, y_fstr, y_rtS, y_zipS1, y_zipS2, v_revL, x_callF, y_callF, List.getElem?_cons_zero, List.getElem?_cons_succ, List.set_cons_zero, List.set_cons_succ, decide_true, decide_false, Int.reduceEq, Int.reduceLT, Int.reduceLE, decide_eq_true_eq, Bool.not_true, Bool.not_false, if_true, if_false, Bool.false_eq_true, b__law_text, toK, txt, wWrap_f, ofs_inj, String.reduceEq, Bool.or_self, Bool.or_false, Bool.or_true, ih, y_pure (show pure_ (.str (txt k)) = true from rfl), c1, c2]
    · rw [wWrap_t] at c1 c2
      simp -implicitDefEqProofs only [x_var, y_var, x_con, x_glob, x_bin, x_neg, x_cmp, x_chain, x_isN, x_notN, x_and, x_and1, x_or, x_or1, x_not, x_ife, x_call, x_callP, x_bi, x_isi, x_listRg, x_ix, x_sl, x_tup, x_lst, x_comp, x_compIf, x_box, x_pop, x_popAt, x_append, x_nil, x_cons, x_seq, x_rng1, x_rng2, x_zip, x_asg, x_setix, x_aug, x_ex, x_if, x_for, x_while, x_ret, x_brk, x_cont, x_bnil, x_bcons, y_rt1, y_rtB, y_bin1, y_bin2, y_cmp1, y_cmp2, y_neg, y_isN, y_notN, y_andT, y_andF, y_orT, y_orF, y_not, y_ifT, y_ifF, y_chain1, y_chain2, y_chainT, y_chainF, y_chain3, y_cons1, y_cons2, y_call, y_callP, y_bi, y_isi, y_ix1, y_ix2, y_tup0, y_tup1, y_tup2, y_tup3, y_tup4, y_lst0, y_lst1, y_lst2, y_lst3, y_lc, y_box, y_pop, y_popAt1, y_popAt2, y_append1, y_append2, y_rtL, y_seq, y_seqT, y_seqL, y_rng21, y_zip1, y_zip2, y_zipT, y_zipL, y_rtE, y_asg, y_set1, y_set2, y_set3, y_aug, y_augA, y_augS, y_ex, y_ifST, y_ifSF, y_for, y_ret, y_nx, y_rt, y_bk, y_ct, y_fnR, y_fnN, y_nm, y_tp, y_tgn, y_tgc, y_tgk, v_add, v_sub, v_eqI, v_eqS, v_eqB, v_neI, v_neS, v_neB, v_lt, v_le, v_gt, v_ge, v_lenT, v_lenL, v_lenF, v_tupL, v_tupT, v_listL, v_listT, v_intI, v_intB, v_max, v_min, v_ixT, v_ixL, v_at0, v_at1, v_at2, y_lst4, y_lst5, y_lst6, y_lst7, y_tup5, y_tup6, y_sl1, y_sl1i, y_sl2, y_sl2i, y_sl3, v_slF, v_slL, v_slT, w_0, w_1, y_part, y_sl1v, y_sl1b, y_sl1n, y_sl2v, y_sl2b, y_sl2n, v_isTT, v_isTI, v_isTB, v_isTS, v_isIT, v_isII, v_isIB, v_isIS, v_isBT, v_isBI, v_isBB, v_isBS, v_isST, v_isSI, v_isSB, v_isSS, v_isN, x_rev, x_join, x_fmt, x_fstr, x_zipS, y_rev, y_join1, y_join2, y_fmt, y_fstr, y_rtS, y_zipS1, y_zipS2, v_revL, x_callF, y_callF, List.getElem?_cons_zero, List.getElem?_cons_succ, List.set_cons_zero, List.set_cons_succ, decide_true, decide_false, Int.reduceEq, Int.reduceLT, Int.reduceLE, decide_eq_true_eq, Bool.not_true, Bool.not_false, if_true, if_false, Bool.false_eq_true, b__law_text, toK, txt, wWrap_t, ofs_inj, String.reduceEq, Bool.or_self, Bool.or_false, Bool.or_true, ih, y_pure (show pure_ (.str (txt k)) = true from rfl), c1, c2]
  | .use s fs, N, m, h, hz, hN => by
    simp only [wf, Bool.and_eq_true] at h
    simp only [kz] at hz hN
    obtain ⟨N, rfl⟩ : ∃ k, N = k + 1 := ⟨N - 1, by omega⟩
    have l1 := nm_le h.1
    have l2 := tzk h.2
    have l3 := joinl (ktx fs)
    have l4 := ktx_len (ps := fs)
    have hl : (ksD fs).length ≤ lim := lim10 (by omega)
    have c1 := v_catS (m := m) (z := s) (w := "[") (lim10 (by simp only [wlen]; omega))
    have c2 := v_catS (m := m) (z := s ++ "[") (w := Str.join ", " (ktx fs)) (lim10 (by simp only [slen, wlen]; omega))
    have c3 := v_catS (m := m) (z := s ++ "[" ++ Str.join ", " (ktx fs)) (w := "]") (lim10 (by simp only [slen, wlen]; omega))
    have cp := textK (G := G) fs (N + 1) m h.2 (by omega) (by omega) (some (toK (.use s fs))) (some (.str "use")) none none
    simp only [toK] at cp
    have jj := jn_ok (m := m) (l := ktx fs) (lim10 (by omega))
    rw [run__law_text, r__law_text]
    simp -implicitDefEqProofs only [x_var, y_var, x_con, x_glob, x_bin, x_neg, x_cmp, x_chain, x_isN, x_notN, x_and, x_and1, x_or, x_or1, x_not, x_ife, x_call, x_callP, x_bi, x_isi, x_listRg, x_ix, x_sl, x_tup, x_lst, x_comp, x_compIf, x_box, x_pop, x_popAt, x_append, x_nil, x_cons, x_seq, x_rng1, x_rng2, x_zip, x_asg, x_setix, x_aug, x_ex, x_if, x_for, x_while, x_ret, x_brk, x_cont, x_bnil, x_bcons, y_rt1, y_rtB, y_bin1, y_bin2, y_cmp1, y_cmp2, y_neg, y_isN, y_notN, y_andT, y_andF, y_orT, y_orF, y_not, y_ifT, y_ifF, y_chain1, y_chain2, y_chainT, y_chainF, y_chain3, y_cons1, y_cons2, y_call, y_callP, y_bi, y_isi, y_ix1, y_ix2, y_tup0, y_tup1, y_tup2, y_tup3, y_tup4, y_lst0, y_lst1, y_lst2, y_lst3, y_lc, y_box, y_pop, y_popAt1, y_popAt2, y_append1, y_append2, y_rtL, y_seq, y_seqT, y_seqL, y_rng21, y_zip1, y_zip2, y_zipT, y_zipL, y_rtE, y_asg, y_set1, y_set2, y_set3, y_aug, y_augA, y_augS, y_ex, y_ifST, y_ifSF, y_for, y_ret, y_nx, y_rt, y_bk, y_ct, y_fnR, y_fnN, y_nm, y_tp, y_tgn, y_tgc, y_tgk, v_add, v_sub, v_eqI, v_eqS, v_eqB, v_neI, v_neS, v_neB, v_lt, v_le, v_gt, v_ge, v_lenT, v_lenL, v_lenF, v_tupL, v_tupT, v_listL, v_listT, v_intI, v_intB, v_max, v_min, v_ixT, v_ixL, v_at0, v_at1, v_at2, y_lst4, y_lst5, y_lst6, y_lst7, y_tup5, y_tup6, y_sl1, y_sl1i, y_sl2, y_sl2i, y_sl3, v_slF, v_slL, v_slT, w_0, w_1, y_part, y_sl1v, y_sl1b, y_sl1n, y_sl2v, y_sl2b, y_sl2n, v_isTT, v_isTI, v_isTB, v_isTS, v_isIT, v_isII, v_isIB, v_isIS, v_isBT, v_isBI, v_isBB, v_isBS, v_isST, v_isSI, v_isSB, v_isSS, v_isN, x_rev, x_join, x_fmt, x_fstr, x_zipS, y_rev, y_join1, y_join2, y_fmt, y_fstr, y_rtS, y_zipS1, y_zipS2, v_revL, x_callF, y_callF, List.getElem?_cons_zero, List.getElem?_cons_succ, List.set_cons_zero, List.set_cons_succ, decide_true, decide_false, Int.reduceEq, Int.reduceLT, Int.reduceLE, decide_eq_true_eq, Bool.not_true, Bool.not_false, if_true, if_false, Bool.false_eq_true, b__law_text, toK, txt, ofs_inj, String.reduceEq, Bool.or_self, Bool.or_false, Bool.or_true, y_comp hl, cp, jj, c1, c2, c3]
theorem textP {G : List D} : ∀ (ps : Ps) (N : Nat) (m : M), wfp ps = true → pz ps ≤ 1000 → pz ps < N → ∀ (e0 e1 e2 : Option D), compL (.tp (.cons (.nm 3) (.cons (.nm 4) .nil))) [e0, e1, e2, none, none] (evE (run tab G N) G (.bin .add (.bin .add (.var 3) (.con (.str " "))) (.callP 12 (.cons (.var 4) .nil)))) (psD ps) m = some ((ptx ps).map .str, m)
  | .nil, N, m, _, _, _, e0, e1, e2 => rfl
  | .cons s k r, N, m, h, hz, hN, e0, e1, e2 => by
    simp only [wfp, Bool.and_eq_true] at h
    simp only [pz] at hz hN
    have hk := kz_pos k
    obtain ⟨N, rfl⟩ : ∃ k, N = k + 1 := ⟨N - 1, by omega⟩
    have l1 := nm_le h.1.1
    have t := tz h.1.2
    have ih := text_ok (G := G) k N m h.1.2 (by omega) (by omega)
    rw [psD, ptx, List.map_cons]
    refine compC (e := [e0, e1, e2, some (.str s), some (toK k)]) (by simp -implicitDefEqProofs only [x_var, y_var, x_con, x_glob, x_bin, x_neg, x_cmp, x_chain, x_isN, x_notN, x_and, x_and1, x_or, x_or1, x_not, x_ife, x_call, x_callP, x_bi, x_isi, x_listRg, x_ix, x_sl, x_tup, x_lst, x_comp, x_compIf, x_box, x_pop, x_popAt, x_append, x_nil, x_cons, x_seq, x_rng1, x_rng2, x_zip, x_asg, x_setix, x_aug, x_ex, x_if, x_for, x_while, x_ret, x_brk, x_cont, x_bnil, x_bcons, y_rt1, y_rtB, y_bin1, y_bin2, y_cmp1, y_cmp2, y_neg, y_isN, y_notN, y_andT, y_andF, y_orT, y_orF, y_not, y_ifT, y_ifF, y_chain1, y_chain2, y_chainT, y_chainF, y_chain3, y_cons1, y_cons2, y_call, y_callP, y_bi, y_isi, y_ix1, y_ix2, y_tup0, y_tup1, y_tup2, y_tup3, y_tup4, y_lst0, y_lst1, y_lst2, y_lst3, y_lc, y_box, y_pop, y_popAt1, y_popAt2, y_append1, y_append2, y_rtL, y_seq, y_seqT, y_seqL, y_rng21, y_zip1, y_zip2, y_zipT, y_zipL, y_rtE, y_asg, y_set1, y_set2, y_set3, y_aug, y_augA, y_augS, y_ex, y_ifST, y_ifSF, y_for, y_ret, y_nx, y_rt, y_bk, y_ct, y_fnR, y_fnN, y_nm, y_tp, y_tgn, y_tgc, y_tgk, v_add, v_sub, v_eqI, v_eqS, v_eqB, v_neI, v_neS, v_neB, v_lt, v_le, v_gt, v_ge, v_lenT, v_lenL, v_lenF, v_tupL, v_tupT, v_listL, v_listT, v_intI, v_intB, v_max, v_min, v_ixT, v_ixL, v_at0, v_at1, v_at2, y_lst4, y_lst5, y_lst6, y_lst7, y_tup5, y_tup6, y_sl1, y_sl1i, y_sl2, y_sl2i, y_sl3, v_slF, v_slL, v_slT, w_0, w_1, y_part, y_sl1v, y_sl1b, y_sl1n, y_sl2v, y_sl2b, y_sl2n, v_isTT, v_isTI, v_isTB, v_isTS, v_isIT, v_isII, v_isIB, v_isIS, v_isBT, v_isBI, v_isBB, v_isBS, v_isST, v_isSI, v_isSB, v_isSS, v_isN, x_rev, x_join, x_fmt, x_fstr, x_zipS, y_rev, y_join1, y_join2, y_fmt, y_fstr, y_rtS, y_zipS1, y_zipS2, v_revL, x_callF, y_callF, List.getElem?_cons_zero, List.getElem?_cons_succ, List.set_cons_zero, List.set_cons_succ, decide_true, decide_false, Int.reduceEq, Int.reduceLT, Int.reduceLE, decide_eq_true_eq, Bool.not_true, Bool.not_false, if_true, if_false, Bool.false_eq_true]) ?_ (textP r (N + 1) m h.2 (by omega) (by omega) e0 e1 e2)
    simp -implicitDefEqProofs only [x_var, y_var, x_con, x_glob, x_bin, x_neg, x_cmp, x_chain, x_isN, x_notN, x_and, x_and1, x_or, x_or1, x_not, x_ife, x_call, x_callP, x_bi, x_isi, x_listRg, x_ix, x_sl, x_tup, x_lst, x_comp, x_compIf, x_box, x_pop, x_popAt, x_append, x_nil, x_cons, x_seq, x_rng1, x_rng2, x_zip, x_asg, x_setix, x_aug, x_ex, x_if, x_for, x_while, x_ret, x_brk, x_cont, x_bnil, x_bcons, y_rt1, y_rtB, y_bin1, y_bin2, y_cmp1, y_cmp2, y_neg, y_isN, y_notN, y_andT, y_andF, y_orT, y_orF, y_not, y_ifT, y_ifF, y_chain1, y_chain2, y_chainT, y_chainF, y_chain3, y_cons1, y_cons2, y_call, y_callP, y_bi, y_isi, y_ix1, y_ix2, y_tup0, y_tup1, y_tup2, y_tup3, y_tup4, y_lst0, y_lst1, y_lst2, y_lst3, y_lc, y_box, y_pop, y_popAt1, y_popAt2, y_append1, y_append2, y_rtL, y_seq, y_seqT, y_seqL, y_rng21, y_zip1, y_zip2, y_zipT, y_zipL, y_rtE, y_asg, y_set1, y_set2, y_set3, y_aug, y_augA, y_augS, y_ex, y_ifST, y_ifSF, y_for, y_ret, y_nx, y_rt, y_bk, y_ct, y_fnR, y_fnN, y_nm, y_tp, y_tgn, y_tgc, y_tgk, v_add, v_sub, v_eqI, v_eqS, v_eqB, v_neI, v_neS, v_neB, v_lt, v_le, v_gt, v_ge, v_lenT, v_lenL, v_lenF, v_tupL, v_tupT, v_listL, v_listT, v_intI, v_intB, v_max, v_min, v_ixT, v_ixL, v_at0, v_at1, v_at2, y_lst4, y_lst5, y_lst6, y_lst7, y_tup5, y_tup6, y_sl1, y_sl1i, y_sl2, y_sl2i, y_sl3, v_slF, v_slL, v_slT, w_0, w_1, y_part, y_sl1v, y_sl1b, y_sl1n, y_sl2v, y_sl2b, y_sl2n, v_isTT, v_isTI, v_isTB, v_isTS, v_isIT, v_isII, v_isIB, v_isIS, v_isBT, v_isBI, v_isBB, v_isBS, v_isST, v_isSI, v_isSB, v_isSS, v_isN, x_rev, x_join, x_fmt, x_fstr, x_zipS, y_rev, y_join1, y_join2, y_fmt, y_fstr, y_rtS, y_zipS1, y_zipS2, v_revL, x_callF, y_callF, List.getElem?_cons_zero, List.getElem?_cons_succ, List.set_cons_zero, List.set_cons_succ, decide_true, decide_false, Int.reduceEq, Int.reduceLT, Int.reduceLE, decide_eq_true_eq, Bool.not_true, Bool.not_false, if_true, if_false, Bool.false_eq_true, ih, y_pure (show pure_ (.str (txt k)) = true from rfl), v_catS (z := s) (w := " ") (lim10 (by simp only [wlen]; omega)), v_catS (z := s ++ " ") (w := txt k) (lim10 (by simp only [slen, wlen]; omega))]
theorem textK {G : List D} : ∀ (ps : Ks) (N : Nat) (m : M), wfk ps = true → fz ps ≤ 1000 → fz ps < N → ∀ (e0 e1 e3 e4 : Option D), compL (.nm 2) [e0, e1, none, e3, e4] (evE (run tab G N) G (.callP 12 (.cons (.var 2) .nil))) (ksD ps) m = some ((ktx ps).map .str, m)
  | .nil, N, m, _, _, _, e0, e1, e3, e4 => rfl
  | .cons k r, N, m, h, hz, hN, e0, e1, e3, e4 => by
    simp only [wfk, Bool.and_eq_true] at h
    simp only [fz] at hz hN
    have hk := kz_pos k
    obtain ⟨N, rfl⟩ : ∃ k, N = k + 1 := ⟨N - 1, by omega⟩
    have ih := text_ok (G := G) k N m h.1 (by omega) (by omega)
    rw [ksD, ktx, List.map_cons]
    refine compC (e := [e0, e1, some (toK k), e3, e4]) (by simp -implicitDefEqProofs only [x_var, y_var, x_con, x_glob, x_bin, x_neg, x_cmp, x_chain, x_isN, x_notN, x_and, x_and1, x_or, x_or1, x_not, x_ife, x_call, x_callP, x_bi, x_isi, x_listRg, x_ix, x_sl, x_tup, x_lst, x_comp, x_compIf, x_box, x_pop, x_popAt, x_append, x_nil, x_cons, x_seq, x_rng1, x_rng2, x_zip, x_asg, x_setix, x_aug, x_ex, x_if, x_for, x_while, x_ret, x_brk, x_cont, x_bnil, x_bcons, y_rt1, y_rtB, y_bin1, y_bin2, y_cmp1, y_cmp2, y_neg, y_isN, y_notN, y_andT, y_andF, y_orT, y_orF, y_not, y_ifT, y_ifF, y_chain1, y_chain2, y_chainT, y_chainF, y_chain3, y_cons1, y_cons2, y_call, y_callP, y_bi, y_isi, y_ix1, y_ix2, y_tup0, y_tup1, y_tup2, y_tup3, y_tup4, y_lst0, y_lst1, y_lst2, y_lst3, y_lc, y_box, y_pop, y_popAt1, y_popAt2, y_append1, y_append2, y_rtL, y_seq, y_seqT, y_seqL, y_rng21, y_zip1, y_zip2, y_zipT, y_zipL, y_rtE, y_asg, y_set1, y_set2, y_set3, y_aug, y_augA, y_augS, y_ex, y_ifST, y_ifSF, y_for, y_ret, y_nx, y_rt, y_bk, y_ct, y_fnR, y_fnN, y_nm, y_tp, y_tgn, y_tgc, y_tgk, v_add, v_sub, v_eqI, v_eqS, v_eqB, v_neI, v_neS, v_neB, v_lt, v_le, v_gt, v_ge, v_lenT, v_lenL, v_lenF, v_tupL, v_tupT, v_listL, v_listT, v_intI, v_intB, v_max, v_min, v_ixT, v_ixL, v_at0, v_at1, v_at2, y_lst4, y_lst5, y_lst6, y_lst7, y_tup5, y_tup6, y_sl1, y_sl1i, y_sl2, y_sl2i, y_sl3, v_slF, v_slL, v_slT, w_0, w_1, y_part, y_sl1v, y_sl1b, y_sl1n, y_sl2v, y_sl2b, y_sl2n, v_isTT, v_isTI, v_isTB, v_isTS, v_isIT, v_isII, v_isIB, v_isIS, v_isBT, v_isBI, v_isBB, v_isBS, v_isST, v_isSI, v_isSB, v_isSS, v_isN, x_rev, x_join, x_fmt, x_fstr, x_zipS, y_rev, y_join1, y_join2, y_fmt, y_fstr, y_rtS, y_zipS1, y_zipS2, v_revL, x_callF, y_callF, List.getElem?_cons_zero, List.getElem?_cons_succ, List.set_cons_zero, List.set_cons_succ, decide_true, decide_false, Int.reduceEq, Int.reduceLT, Int.reduceLE, decide_eq_true_eq, Bool.not_true, Bool.not_false, if_true, if_false, Bool.false_eq_true]) ?_ (textK r (N + 1) m h.2 (by omega) (by omega) e0 e1 e3 e4)
    simp -implicitDefEqProofs only [x_var, y_var, x_con, x_glob, x_bin, x_neg, x_cmp, x_chain, x_isN, x_notN, x_and, x_and1, x_or, x_or1, x_not, x_ife, x_call, x_callP, x_bi, x_isi, x_listRg, x_ix, x_sl, x_tup, x_lst, x_comp, x_compIf, x_box, x_pop, x_popAt, x_append, x_nil, x_cons, x_seq, x_rng1, x_rng2, x_zip, x_asg, x_setix, x_aug, x_ex, x_if, x_for, x_while, x_ret, x_brk, x_cont, x_bnil, x_bcons, y_rt1, y_rtB, y_bin1, y_bin2, y_cmp1, y_cmp2, y_neg, y_isN, y_notN, y_andT, y_andF, y_orT, y_orF, y_not, y_ifT, y_ifF, y_chain1, y_chain2, y_chainT, y_chainF, y_chain3, y_cons1, y_cons2, y_call, y_callP, y_bi, y_isi, y_ix1, y_ix2, y_tup0, y_tup1, y_tup2, y_tup3, y_tup4, y_lst0, y_lst1, y_lst2, y_lst3, y_lc, y_box, y_pop, y_popAt1, y_popAt2, y_append1, y_append2, y_rtL, y_seq, y_seqT, y_seqL, y_rng21, y_zip1, y_zip2, y_zipT, y_zipL, y_rtE, y_asg, y_set1, y_set2, y_set3, y_aug, y_augA, y_augS, y_ex, y_ifST, y_ifSF, y_for, y_ret, y_nx, y_rt, y_bk, y_ct, y_fnR, y_fnN, y_nm, y_tp, y_tgn, y_tgc, y_tgk, v_add, v_sub, v_eqI, v_eqS, v_eqB, v_neI, v_neS, v_neB, v_lt, v_le, v_gt, v_ge, v_lenT, v_lenL, v_lenF, v_tupL, v_tupT, v_listL, v_listT, v_intI, v_intB, v_max, v_min, v_ixT, v_ixL, v_at0, v_at1, v_at2, y_lst4, y_lst5, y_lst6, y_lst7, y_tup5, y_tup6, y_sl1, y_sl1i, y_sl2, y_sl2i, y_sl3, v_slF, v_slL, v_slT, w_0, w_1, y_part, y_sl1v, y_sl1b, y_sl1n, y_sl2v, y_sl2b, y_sl2n, v_isTT, v_isTI, v_isTB, v_isTS, v_isIT, v_isII, v_isIB, v_isIS, v_isBT, v_isBI, v_isBB, v_isBS, v_isST, v_isSI, v_isSB, v_isSS, v_isN, x_rev, x_join, x_fmt, x_fstr, x_zipS, y_rev, y_join1, y_join2, y_fmt, y_fstr, y_rtS, y_zipS1, y_zipS2, v_revL, x_callF, y_callF, List.getElem?_cons_zero, List.getElem?_cons_succ, List.set_cons_zero, List.set_cons_succ, decide_true, decide_false, Int.reduceEq, Int.reduceLT, Int.reduceLE, decide_eq_true_eq, Bool.not_true, Bool.not_false, if_true, if_false, Bool.false_eq_true, ih, y_pure (show pure_ (.str (txt k)) = true from rfl)]
end
end Lw

namespace Lw
open PySem Pv
/-! names -/
def abc : Str := "abcdefghijklmnopqrstuvwxyz"
theorem abc_ok : (tl abc).all ltr = true ∧ abc.length = 26 := by decide +kernel
theorem letter_at {m : M} {d : Int} (h0 : 0 ≤ d) (h1 : d < 26) : ∃ c : Str, ixD m (.str abc) (.int d) = some (.str c) ∧ (tl c).all ltr = true ∧ c.length = 1 := by
  obtain ⟨j, rfl⟩ := Int.eq_ofNat_of_zero_le h0
  have hl : abc.length ≤ lim := lim10 (by rw [abc_ok.2]; decide)
  have hj : j < abc.cps.toList.length := by
    have : abc.length = abc.cps.toList.length := by simp [Str.length]
    rw [← this, abc_ok.2]
    omega
  refine ⟨⟨#[abc.cps.toList[j]]⟩, ?_, ?_, rfl⟩
  · have e : ixD m (.str abc) (.int (j : Int)) = if abc.length ≤ lim then ((ixAt abc.cps.toList.length (j : Int)).bind fun k => abc.cps.toList[k]?).map fun c => .str ⟨#[c]⟩ else none := rfl
    rw [e, if_pos hl, ixAt_nat hj]
    simp only [Option.bind_some, List.getElem?_eq_getElem hj, Option.map_some]
  · have := List.all_eq_true.mp abc_ok.1 _ (List.getElem_mem hj)
    simpa using this
theorem join0 : ∀ l : List Str, tl (Str.join "" l) = (l.map tl).flatten
  | [] => by decide +kernel
  | [x] => by simp [Str.join]
  | x :: y :: r => by
    have e : tl ("" : Str) = [] := by decide +kernel
    have ih := join0 (y :: r)
    have ej : Str.join "" (x :: y :: r) = x ++ "" ++ Str.join "" (y :: r) := by rw [Str.join]; simp
    rw [ej, tl_app, tl_app, e, ih]
    simp
theorem tlen {x : Str} : x.length = (tl x).length := by simp [Str.length]
theorem sum1 {l : List Str} (h : ∀ x ∈ l, (tl x).all ltr = true ∧ x.length = 1) : (l.map (·.length)).sum = l.length := by
  induction l with
  | nil => rfl
  | cons x r ih =>
    simp only [List.map_cons, List.sum_cons, List.length_cons]
    rw [ih fun y hy => h y (List.mem_cons_of_mem _ hy), (h x List.mem_cons_self).2]
    omega
theorem join1 {l : List Str} (h : ∀ x ∈ l, (tl x).all ltr = true ∧ x.length = 1) : (tl (Str.join "" l)).all ltr = true ∧ (Str.join "" l).length = l.length := by
  rw [tlen, join0]
  constructor
  · rw [List.all_eq_true]
    intro c hc
    obtain ⟨z, hz, hcz⟩ := List.mem_flatten.mp hc
    obtain ⟨x, hx, rfl⟩ := List.mem_map.mp hz
    exact List.all_eq_true.mp (h x hx).1 c hcz
  · rw [List.length_flatten, List.map_map]
    have e : l.map (List.length ∘ tl) = l.map (·.length) := List.map_congr_left fun x _ => by show (tl x).length = x.length; exact tlen.symm
    rw [e, sum1 h]
theorem letters_ok {G : List D} {n : Nat} (c : Nat) (hc : c ≤ 20) (s : Dk) (h : s.Ok) (hk : s.k + 20 < 2 ^ 40) (g : M) :
    ∃ x s', run tab G (n + 2) 5 [.ref 1, .int c] (mem s g) = some (.str x, mem s' g) ∧ (tl x).all ltr = true ∧ x.length = c ∧ s'.k ≤ s.k + c ∧ s'.Ok := by
  have hl : (rangeD 0 c).length ≤ lim := by rw [rangeD_len]; exact lim10 (by omega)
  obtain ⟨vs, m', hcm, ss, hvs, hlen, hss, s3, rfl, k3, o3⟩ := comp_ok (t := .nm 2) (te := evE (run tab G (n + 1)) G (.ix (.con (.str abc)) (.call 3 (.cons (.var 0) (.cons (.con (.int 26)) .nil)))))
    (fun i acc m => ∃ ss : List Str, acc = ss.map .str ∧ ss.length = i ∧ (∀ x ∈ ss, (tl x).all ltr = true ∧ x.length = 1) ∧ ∃ s3 : Dk, m = mem s3 g ∧ s3.k = s.k + i ∧ s3.Ok)
    (rangeD 0 c) [some (.ref 1), some (.int (c : Int)), none] (mem s g) ⟨[], rfl, rfl, by simp, s, rfl, rfl, h⟩ (by
      rintro i hi acc m ⟨ss, rfl, hl, hss, s3, rfl, k3, o3⟩
      rw [rangeD_len] at hi
      obtain ⟨d4, s4, e4, p4, q4, k4, o4⟩ := pick_run (G := G) (n := n) s3 o3 (by omega) 26 (by decide) (by decide) g
      obtain ⟨ch, e5, h5, h6⟩ := letter_at (m := mem s4 g) p4 q4
      refine ⟨_, .str ch, mem s4 g, y_nm, by simp -implicitDefEqProofs only [x_var, y_var, x_con, x_glob, x_bin, x_neg, x_cmp, x_chain, x_isN, x_notN, x_and, x_and1, x_or, x_or1, x_not, x_ife, x_call, x_callP, x_bi, x_isi, x_listRg, x_ix, x_sl, x_tup, x_lst, x_comp, x_compIf, x_box, x_pop, x_popAt, x_append, x_nil, x_cons, x_seq, x_rng1, x_rng2, x_zip, x_asg, x_setix, x_aug, x_ex, x_if, x_for, x_while, x_ret, x_brk, x_cont, x_bnil, x_bcons, y_rt1, y_rtB, y_bin1, y_bin2, y_cmp1, y_cmp2, y_neg, y_isN, y_notN, y_andT, y_andF, y_orT, y_orF, y_not, y_ifT, y_ifF, y_chain1, y_chain2, y_chainT, y_chainF, y_chain3, y_cons1, y_cons2, y_call, y_callP, y_bi, y_isi, y_ix1, y_ix2, y_tup0, y_tup1, y_tup2, y_tup3, y_tup4, y_lst0, y_lst1, y_lst2, y_lst3, y_lc, y_box, y_pop, y_popAt1, y_popAt2, y_append1, y_append2, y_rtL, y_seq, y_seqT, y_seqL, y_rng21, y_zip1, y_zip2, y_zipT, y_zipL, y_rtE, y_asg, y_set1, y_set2, y_set3, y_aug, y_augA, y_augS, y_ex, y_ifST, y_ifSF, y_for, y_ret, y_nx, y_rt, y_bk, y_ct, y_fnR, y_fnN, y_nm, y_tp, y_tgn, y_tgc, y_tgk, v_add, v_sub, v_eqI, v_eqS, v_eqB, v_neI, v_neS, v_neB, v_lt, v_le, v_gt, v_ge, v_lenT, v_lenL, v_lenF, v_tupL, v_tupT, v_listL, v_listT, v_intI, v_intB, v_max, v_min, v_ixT, v_ixL, v_at0, v_at1, v_at2, y_lst4, y_lst5, y_lst6, y_lst7, y_tup5, y_tup6, y_sl1, y_sl1i, y_sl2, y_sl2i, y_sl3, v_slF, v_slL, v_slT, w_0, w_1, y_part, y_sl1v, y_sl1b, y_sl1n, y_sl2v, y_sl2b, y_sl2n, v_isTT, v_isTI, v_isTB, v_isTS, v_isIT, v_isII, v_isIB, v_isIS, v_isBT, v_isBI, v_isBB, v_isBS, v_isST, v_isSI, v_isSB, v_isSS, v_isN, x_rev, x_join, x_fmt, x_fstr, x_zipS, y_rev, y_join1, y_join2, y_fmt, y_fstr, y_rtS, y_zipS1, y_zipS2, v_revL, x_callF, y_callF, List.getElem?_cons_zero, List.getElem?_cons_succ, List.set_cons_zero, List.set_cons_succ, decide_true, decide_false, Int.reduceEq, Int.reduceLT, Int.reduceLE, decide_eq_true_eq, Bool.not_true, Bool.not_false, if_true, if_false, Bool.false_eq_true, e4, e5], ss ++ [ch], by simp, by simp [hl], ?_, s4, rfl, by omega, o4⟩
      intro x hx
      rcases List.mem_append.mp hx with hx | hx
      · exact hss x hx
      · rw [List.mem_singleton.mp hx]; exact ⟨h5, h6⟩)
  rw [rangeD_len] at hlen k3
  subst hvs
  have hz := sum1 hss
  have e0 : (Str.ofString "").length = 0 := by decide +kernel
  have jn : ∀ m : M, joinD m (.str "") (.lst (ss.map .str)) = some (.str (Str.join "" ss)) := by
    intro m
    show ((seqOf m (.lst (ss.map .str))).bind fun ys => (strsD ys).bind fun ss => if (ss.map (·.length)).sum + ss.length * (Str.ofString "").length ≤ lim then some (D.str (Str.join "" ss)) else none) = _
    have : seqOf m (.lst (ss.map .str)) = some (ss.map .str) := rfl
    rw [this, Option.bind_some, strs_ok, Option.bind_some, if_pos]
    rw [hz, e0]
    exact lim10 (by omega)
  obtain ⟨j1, j2⟩ := join1 hss
  refine ⟨Str.join "" ss, s3, ?_, j1, by rw [j2]; exact hlen, by omega, o3⟩
  rw [run__law_letters, r__law_letters]
  have eR : ∀ m : M, kRng1 (some (.int (c : Int), m)) = some (rangeD 0 c, m) := fun m => by rw [y_rng1 (rgOk_of (by omega) (by omega)), Int.toNat_natCast]
  have ea : (Str.ofString "abcdefghijklmnopqrstuvwxyz") = abc := rfl
  simp -implicitDefEqProofs only [x_var, y_var, x_con, x_glob, x_bin, x_neg, x_cmp, x_chain, x_isN, x_notN, x_and, x_and1, x_or, x_or1, x_not, x_ife, x_call, x_callP, x_bi, x_isi, x_listRg, x_ix, x_sl, x_tup, x_lst, x_comp, x_compIf, x_box, x_pop, x_popAt, x_append, x_nil, x_cons, x_seq, x_rng1, x_rng2, x_zip, x_asg, x_setix, x_aug, x_ex, x_if, x_for, x_while, x_ret, x_brk, x_cont, x_bnil, x_bcons, y_rt1, y_rtB, y_bin1, y_bin2, y_cmp1, y_cmp2, y_neg, y_isN, y_notN, y_andT, y_andF, y_orT, y_orF, y_not, y_ifT, y_ifF, y_chain1, y_chain2, y_chainT, y_chainF, y_chain3, y_cons1, y_cons2, y_call, y_callP, y_bi, y_isi, y_ix1, y_ix2, y_tup0, y_tup1, y_tup2, y_tup3, y_tup4, y_lst0, y_lst1, y_lst2, y_lst3, y_lc, y_box, y_pop, y_popAt1, y_popAt2, y_append1, y_append2, y_rtL, y_seq, y_seqT, y_seqL, y_rng21, y_zip1, y_zip2, y_zipT, y_zipL, y_rtE, y_asg, y_set1, y_set2, y_set3, y_aug, y_augA, y_augS, y_ex, y_ifST, y_ifSF, y_for, y_ret, y_nx, y_rt, y_bk, y_ct, y_fnR, y_fnN, y_nm, y_tp, y_tgn, y_tgc, y_tgk, v_add, v_sub, v_eqI, v_eqS, v_eqB, v_neI, v_neS, v_neB, v_lt, v_le, v_gt, v_ge, v_lenT, v_lenL, v_lenF, v_tupL, v_tupT, v_listL, v_listT, v_intI, v_intB, v_max, v_min, v_ixT, v_ixL, v_at0, v_at1, v_at2, y_lst4, y_lst5, y_lst6, y_lst7, y_tup5, y_tup6, y_sl1, y_sl1i, y_sl2, y_sl2i, y_sl3, v_slF, v_slL, v_slT, w_0, w_1, y_part, y_sl1v, y_sl1b, y_sl1n, y_sl2v, y_sl2b, y_sl2n, v_isTT, v_isTI, v_isTB, v_isTS, v_isIT, v_isII, v_isIB, v_isIS, v_isBT, v_isBI, v_isBB, v_isBS, v_isST, v_isSI, v_isSB, v_isSS, v_isN, x_rev, x_join, x_fmt, x_fstr, x_zipS, y_rev, y_join1, y_join2, y_fmt, y_fstr, y_rtS, y_zipS1, y_zipS2, v_revL, x_callF, y_callF, List.getElem?_cons_zero, List.getElem?_cons_succ, List.set_cons_zero, List.set_cons_succ, decide_true, decide_false, Int.reduceEq, Int.reduceLT, Int.reduceLE, decide_eq_true_eq, Bool.not_true, Bool.not_false, if_true, if_false, Bool.false_eq_true, b__law_letters, ea, eR, y_comp hl, hcm, jn]
theorem popAtR {m : M} {l : Nat} {xs : List D} {i : Nat} (h : m[l]? = some (.lst xs)) (hi : i < xs.length) (h6 : i < 1000) : popAtM m (.ref l) (.int (i : Int)) = some (xs[i], m.set l (.lst (xs.eraseIdx i))) := by
  simp only [popAtM, h, ixAt_nat hi, List.getElem?_eq_getElem hi]
  have : (decide (-(2 ^ 63) ≤ (i : Int)) && decide ((i : Int) < 2 ^ 63)) = true := by simp only [Bool.and_eq_true, decide_eq_true_eq]; omega
  rw [if_pos this]
theorem er_map {l : List Str} : ∀ {i : Nat}, (l.map D.str).eraseIdx i = (l.eraseIdx i).map .str := by
  induction l with
  | nil => intro i; rfl
  | cons x r ih =>
    intro i
    cases i with
    | zero => rfl
    | succ i => simp only [List.map_cons, List.eraseIdx_cons_succ, ih]
theorem appR {m : M} {l : Nat} {xs : List D} {y : D} (h : m[l]? = some (.lst xs)) (hl : xs.length < lim) : appendM m y (.ref l) = some (.non, m.set l (.lst (xs ++ [y]))) := by
  simp only [appendM, h, hl, if_true]
theorem in_strs {m : M} {l : Nat} {ss : List Str} {x : Str} (h : m[l]? = some (.lst (ss.map .str))) : ∃ b, cmpD m .isin (.str x) (.ref l) = some b := by
  refine ⟨(ss.map D.str).any fun z => eqF z (.str x), ?_⟩
  · show inD m (.str x) (.ref l) = some ((ss.map D.str).any fun z => eqF z (.str x))
    have e : seqOf m (.ref l) = some (ss.map .str) := by simp only [seqOf, deref, h]
    unfold inD
    rw [e]
    have : (flatD (.str x) && (ss.map D.str).all flatD) = true := by simp [flatD]
    simp only [this, if_true]
theorem cut_l {z : Str} {lo hi : Option Int} (h : (tl z).all ltr = true) : (tl (cutT z lo hi)).all ltr = true := by
  rw [List.all_eq_true] at h ⊢
  intro c hc
  exact h c (List.mem_of_mem_drop (List.mem_of_mem_take hc))
theorem cut_le {z : Str} {lo hi : Option Int} : (cutT z lo hi).length ≤ z.length := by
  show (List.toArray _).size ≤ _
  have e : z.cps.toList.length = z.length := tlen.symm
  rw [List.size_toArray, List.length_take, List.length_drop]
  omega
theorem cut_sum {z : Str} {k : Nat} (h : k ≤ z.length) : (cutT z none (some (k : Int))).length + (cutT z (some (k : Int)) none).length ≤ z.length := by
  show (List.toArray _).size + (List.toArray _).size ≤ _
  rw [List.size_toArray, List.size_toArray, List.length_take, List.length_take, List.length_drop, List.length_drop]
  have e : z.cps.toList.length = z.length := tlen.symm
  have : ¬ ((k : Int) < 0) := by omega
  simp only [sIx, this, if_false, Int.toNat_natCast, Nat.min_eq_left h]
  omega
theorem nmOk_of {x : Str} (h : (tl x).all ltr = true) (h0 : 0 < x.length) (h1 : x.length ≤ 13) : nmOk x = true := by
  simp only [nmOk, h, h0, h1, decide_true, Bool.and_self]
/-- one of two numbers -/
theorem of_two {a b : Int} {i : Int} (h0 : 0 ≤ i) (h1 : i < 4) : ∃ c, atD [.int a, .int b] (i / 3) = some (.int c) ∧ (c = a ∨ c = b) := by
  have : i / 3 = 0 ∨ i / 3 = 1 := by omega
  rcases this with e | e
  · exact ⟨a, by rw [e]; exact v_at0, .inl rfl⟩
  · exact ⟨b, by rw [e]; exact v_at1, .inr rfl⟩
theorem bel_ints {n : Nat} {l : List Int} : belows n (l.map .int) = true := by
  induction l with
  | nil => rfl
  | cons x r ih => simp only [List.map_cons, belows, below, ih, Bool.and_self]
theorem bel_mem {s : Dk} : belowM 2 (mem s []) = true := by
  simp only [belowM, mem, List.all_cons, List.all_nil, belows, below, bel_ints, Bool.and_true, Bool.and_self]
  decide
theorem pures_strs {l : List Str} : pures (l.map .str) = true := by
  rw [pures_all]; intro x hx; obtain ⟨c, _, rfl⟩ := List.mem_map.mp hx; rfl
theorem names_ok {G : List D} {n : Nat} (c : Nat) (hc : c ≤ 9) (s : Dk) (h : s.Ok) (hk : s.k + 1000 < 2 ^ 40) :
    ∃ (ss : List Str) (s' : Dk), kFresh (mem s []) (run tab G (n + 3) 6 [.ref 1, .int c] (mem s [])) = some (.lst (ss.map .str), mem s' []) ∧ ss.length = c ∧ (∀ x ∈ ss, nmOk x = true) ∧ s'.k ≤ s.k + 500 ∧ s'.Ok := by
  have hab : ∀ m : M, biD m .list [.str abc] = some (.lst ((abc.cps.toList.map fun c => (⟨#[c]⟩ : Str)).map .str)) := by
    intro m
    have hl : abc.length ≤ lim := lim10 (by rw [abc_ok.2]; decide)
    show (if abc.length ≤ lim then some (D.lst (abc.cps.toList.map fun c => .str ⟨#[c]⟩)) else none) = _
    rw [if_pos hl, List.map_map]
    rfl
  have hpool : ∀ x ∈ (abc.cps.toList.map fun c => (⟨#[c]⟩ : Str)), (tl x).all ltr = true ∧ x.length = 1 := by
    intro x hx
    obtain ⟨c, hc, rfl⟩ := List.mem_map.mp hx
    refine ⟨?_, rfl⟩
    have := List.all_eq_true.mp abc_ok.1 c hc
    simpa using this
  have hpl : (abc.cps.toList.map fun c => (⟨#[c]⟩ : Str)).length = 26 := by rw [List.length_map]; exact tlen.symm.trans abc_ok.2
  generalize (abc.cps.toList.map fun c => (⟨#[c]⟩ : Str)) = pool at *
  obtain ⟨d1, s1, e1, p1, q1, k1, o1⟩ := pick_run (G := G) (n := n + 1) s h (by omega) 4 (by decide) (by decide) [.lst (pool.map .str)]
  obtain ⟨d2, s2, e2, p2, q2, k2, o2⟩ := pick_run (G := G) (n := n + 1) s1 o1 (by omega) 12 (by decide) (by decide) [.lst (pool.map .str)]
  obtain ⟨d3, s3, e3, p3, q3, k3, o3⟩ := pick_run (G := G) (n := n + 1) s2 o2 (by omega) 4 (by decide) (by decide) [.lst (pool.map .str)]
  obtain ⟨d4, e4, h4⟩ := of_two (a := d1) (b := d2) p3 q3
  obtain ⟨c4, rfl⟩ : ∃ c : Nat, d4 = (c : Int) := Int.eq_ofNat_of_zero_le (by omega)
  have hc4 : c4 ≤ 11 := by omega
  obtain ⟨stem, s5, e5, l5, n5, k5, o5⟩ := letters_ok (G := G) (n := n) c4 (by omega) s3 o3 (by omega) [.lst (pool.map .str)]
  obtain ⟨mk, s6, e6, p6, q6, k6, o6⟩ := pick_run (G := G) (n := n + 1) s5 o5 (by omega) ((stem.length : Int) + 1) (by omega) (by omega) [.lst (pool.map .str)]
  obtain ⟨mk, rfl⟩ := Int.eq_ofNat_of_zero_le p6
  obtain ⟨nr, s7, e7, p7, q7, k7, o7⟩ := pick_run (G := G) (n := n + 1) s6 o6 (by omega) 2 (by decide) (by decide) [.lst (pool.map .str)]
  have d3k : ∀ m : M, bopD m .fdiv (.int d3) (.int 3) = some (.int (d3 / 3)) := fun m => v_fdiv (by decide)
  have sl : stem.length ≤ lim := lim10 (by omega)
  obtain ⟨env', m', hf, po, ss, x8, x9, xk, s8, rfl, rfl, hpo, hpll, hssl, hss, k8, o8⟩ := for_ok (t := .nm 7) (tb := evB (run tab G (n + 2)) G l__law_names_0)
    (fun i env m => ∃ (po ss : List Str) (x8 x9 xk : Option D) (s8 : Dk), env = [some (.ref 1), some (.int (c : Int)), some (.ref 2), some (.str stem), some (.int (mk : Int)), some (.bl (decide (nr = 1))), some (.ref 3), xk, x8, x9] ∧ m = mem s8 [.lst (po.map .str), .lst (ss.map .str)] ∧ (∀ x ∈ po, (tl x).all ltr = true ∧ x.length = 1) ∧ po.length + i = 26 ∧ ss.length = i ∧ (∀ x ∈ ss, nmOk x = true) ∧ s8.k ≤ s7.k + 20 * i ∧ s8.Ok)
    (rangeD 0 c) [some (.ref 1), some (.int (c : Int)), some (.ref 2), some (.str stem), some (.int (mk : Int)), some (.bl (decide (nr = 1))), some (.ref 3), none, none, none] (mem s7 [.lst (pool.map .str), .lst []]) ⟨pool, [], none, none, none, s7, rfl, rfl, hpool, by omega, rfl, by simp, by omega, o7⟩ (by
      rintro i hi env m ⟨po, ss, x8, x9, xk, s8, rfl, rfl, hpo, hpll, hssl, hss, k8, o8⟩
      rw [rangeD_len] at hi
      obtain ⟨a, t1, f1, u1, v1, w1, y1⟩ := pick_run (G := G) (n := n + 1) s8 o8 (by omega) (po.length : Int) (by omega) (by omega) [.lst (po.map .str), .lst (ss.map .str)]
      obtain ⟨a, rfl⟩ := Int.eq_ofNat_of_zero_le u1
      have ha : a < po.length := by omega
      have ha' : a < (po.map D.str).length := by simpa using ha
      have hm2 : (mem t1 [.lst (po.map .str), .lst (ss.map .str)])[2]? = some (.lst (po.map .str)) := rfl
      have hm2' : ∀ z : Dk, (mem z [.lst (po.map .str), .lst (ss.map .str)])[2]? = some (.lst (po.map .str)) := fun z => rfl
      have pa := popAtR hm2 ha' (by omega)
      have pl := hpo po[a] (List.getElem_mem ha)
      have e8 : (po.map D.str)[a] = .str po[a] := by simp
      have em : (mem t1 [.lst (po.map .str), .lst (ss.map .str)]).set 2 (.lst ((po.map D.str).eraseIdx a)) = mem t1 [.lst ((po.eraseIdx a).map .str), .lst (ss.map .str)] := by
        rw [er_map]; rfl
      rw [e8, em] at pa
      generalize hlt : po[a] = lt at *
      generalize hpe : po.eraseIdx a = pe at *
      have hpel : pe.length + 1 = po.length := by rw [← hpe, List.length_eraseIdx_of_lt ha]; omega
      have hpe' : ∀ x ∈ pe, (tl x).all ltr = true ∧ x.length = 1 := fun x hx => hpo x (List.mem_of_mem_eraseIdx (by rw [← hpe] at hx; exact hx))
      have cs := cut_sum (z := stem) (k := mk) (by omega)
      have c1 := v_catS (m := mem t1 [.lst (pe.map .str), .lst (ss.map .str)]) (z := cutT stem none (some (mk : Int))) (w := lt) (lim10 (by omega))
      have c2 := v_catS (m := mem t1 [.lst (pe.map .str), .lst (ss.map .str)]) (z := cutT stem none (some (mk : Int)) ++ lt) (w := cutT stem (some (mk : Int)) none) (lim10 (by rw [slen]; omega))
      have ap : ∀ (z : Dk) (y : Str), appendM (mem z [.lst (pe.map .str), .lst (ss.map .str)]) (.str y) (.ref 3) = some (.non, mem z [.lst (pe.map .str), .lst ((ss ++ [y]).map .str)]) := by
        intro z y
        rw [appR (l := 3) (xs := ss.map .str) rfl (by rw [List.length_map]; exact Nat.lt_of_lt_of_le (show ss.length < 100 by omega) (lim10 (by decide))), List.map_append]
        rfl
      have lenP : ∀ z : Dk, biD (mem z [.lst (po.map .str), .lst (ss.map .str)]) .len [.ref 2] = some (.int (po.length : Int)) := fun z => by rw [v_lenR (hm2' z), List.length_map]
      have fin : ∀ (y : Str) (z : Dk), nmOk y = true → z.k ≤ s8.k + 20 → z.Ok → ∃ (po' ss' : List Str) (x8 x9 xk : Option D) (s8 : Dk), [some (.ref 1), some (.int (c : Int)), some (.ref 2), some (.str stem), some (.int (mk : Int)), some (.bl (decide (nr = 1))), some (.ref 3), some (rangeD 0 c)[i], some (.str lt), some (.str y)] = [some (.ref 1), some (.int (c : Int)), some (.ref 2), some (.str stem), some (.int (mk : Int)), some (.bl (decide (nr = 1))), some (.ref 3), xk, x8, x9] ∧ mem z [.lst (pe.map .str), .lst ((ss ++ [y]).map .str)] = mem s8 [.lst (po'.map .str), .lst (ss'.map .str)] ∧ (∀ x ∈ po', (tl x).all ltr = true ∧ x.length = 1) ∧ po'.length + (i + 1) = 26 ∧ ss'.length = i + 1 ∧ (∀ x ∈ ss', nmOk x = true) ∧ s8.k ≤ s7.k + 20 * (i + 1) ∧ s8.Ok := by
        intro y z hy hz hzo
        refine ⟨pe, ss ++ [y], _, _, _, z, rfl, rfl, hpe', by omega, by simp [hssl], ?_, by omega, hzo⟩
        intro x hx
        rcases List.mem_append.mp hx with hx | hx
        · exact hss x hx
        · rw [List.mem_singleton.mp hx]; exact hy
      have nmL : nmOk lt = true := nmOk_of pl.1 (by omega) (by omega)
      by_cases hnr : nr = 1
      · have hy : nmOk (cutT stem none (some (mk : Int)) ++ lt ++ cutT stem (some (mk : Int)) none) = true := by
          refine nmOk_of ?_ (by simp only [slen]; omega) (by simp only [slen]; omega)
          rw [tl_app, tl_app, List.all_append, List.all_append, cut_l l5, cut_l l5, pl.1]; rfl
        refine ⟨_, _, _, y_nm, ?_, fin (cutT stem none (some (mk : Int)) ++ lt ++ cutT stem (some (mk : Int)) none) t1 hy (by omega) y1⟩
        simp -implicitDefEqProofs only [x_var, y_var, x_con, x_glob, x_bin, x_neg, x_cmp, x_chain, x_isN, x_notN, x_and, x_and1, x_or, x_or1, x_not, x_ife, x_call, x_callP, x_bi, x_isi, x_listRg, x_ix, x_sl, x_tup, x_lst, x_comp, x_compIf, x_box, x_pop, x_popAt, x_append, x_nil, x_cons, x_seq, x_rng1, x_rng2, x_zip, x_asg, x_setix, x_aug, x_ex, x_if, x_for, x_while, x_ret, x_brk, x_cont, x_bnil, x_bcons, y_rt1, y_rtB, y_bin1, y_bin2, y_cmp1, y_cmp2, y_neg, y_isN, y_notN, y_andT, y_andF, y_orT, y_orF, y_not, y_ifT, y_ifF, y_chain1, y_chain2, y_chainT, y_chainF, y_chain3, y_cons1, y_cons2, y_call, y_callP, y_bi, y_isi, y_ix1, y_ix2, y_tup0, y_tup1, y_tup2, y_tup3, y_tup4, y_lst0, y_lst1, y_lst2, y_lst3, y_lc, y_box, y_pop, y_popAt1, y_popAt2, y_append1, y_append2, y_rtL, y_seq, y_seqT, y_seqL, y_rng21, y_zip1, y_zip2, y_zipT, y_zipL, y_rtE, y_asg, y_set1, y_set2, y_set3, y_aug, y_augA, y_augS, y_ex, y_ifST, y_ifSF, y_for, y_ret, y_nx, y_rt, y_bk, y_ct, y_fnR, y_fnN, y_nm, y_tp, y_tgn, y_tgc, y_tgk, v_add, v_sub, v_eqI, v_eqS, v_eqB, v_neI, v_neS, v_neB, v_lt, v_le, v_gt, v_ge, v_lenT, v_lenL, v_lenF, v_tupL, v_tupT, v_listL, v_listT, v_intI, v_intB, v_max, v_min, v_ixT, v_ixL, v_at0, v_at1, v_at2, y_lst4, y_lst5, y_lst6, y_lst7, y_tup5, y_tup6, y_sl1, y_sl1i, y_sl2, y_sl2i, y_sl3, v_slF, v_slL, v_slT, w_0, w_1, y_part, y_sl1v, y_sl1b, y_sl1n, y_sl2v, y_sl2b, y_sl2n, v_isTT, v_isTI, v_isTB, v_isTS, v_isIT, v_isII, v_isIB, v_isIS, v_isBT, v_isBI, v_isBB, v_isBS, v_isST, v_isSI, v_isSB, v_isSS, v_isN, x_rev, x_join, x_fmt, x_fstr, x_zipS, y_rev, y_join1, y_join2, y_fmt, y_fstr, y_rtS, y_zipS1, y_zipS2, v_revL, x_callF, y_callF, List.getElem?_cons_zero, List.getElem?_cons_succ, List.set_cons_zero, List.set_cons_succ, decide_true, decide_false, Int.reduceEq, Int.reduceLT, Int.reduceLE, decide_eq_true_eq, Bool.not_true, Bool.not_false, if_true, if_false, Bool.false_eq_true, l__law_names_0, lenP, f1, pa, v_slS sl, c1, c2, hnr, ap]
      · obtain ⟨b1, t2, f2, u2, v2, w2, y2⟩ := pick_run (G := G) (n := n + 1) t1 y1 (by omega) 3 (by decide) (by decide) [.lst (pe.map .str), .lst (ss.map .str)]
        obtain ⟨b2, t3, f3, u3, v3, w3, y3⟩ := pick_run (G := G) (n := n + 1) t2 y2 (by omega) 11 (by decide) (by decide) [.lst (pe.map .str), .lst (ss.map .str)]
        obtain ⟨b3, t4, f4, u4, v4, w4, y4⟩ := pick_run (G := G) (n := n + 1) t3 y3 (by omega) 4 (by decide) (by decide) [.lst (pe.map .str), .lst (ss.map .str)]
        obtain ⟨b4, f5, h5⟩ := of_two (a := b1) (b := b2) u4 v4
        have b3k : ∀ m : M, bopD m .fdiv (.int b3) (.int 3) = some (.int (b3 / 3)) := fun m => v_fdiv (by decide)
        obtain ⟨c5, hc5⟩ : ∃ c : Nat, 2 + b4 = (c : Int) := Int.eq_ofNat_of_zero_le (by omega)
        obtain ⟨nw, t5, f6, l6, n6, w5, y5⟩ := letters_ok (G := G) (n := n) c5 (by omega) t4 y4 (by omega) [.lst (pe.map .str), .lst (ss.map .str)]
        obtain ⟨bb, fb⟩ := in_strs (m := mem t5 [.lst (pe.map .str), .lst (ss.map .str)]) (l := 3) (x := nw) rfl
        have nmN : nmOk nw = true := nmOk_of l6 (by omega) (by omega)
        cases bb with
        | true =>
          refine ⟨_, _, _, y_nm, ?_, fin lt t5 nmL (by omega) y5⟩
          simp -implicitDefEqProofs only [x_var, y_var, x_con, x_glob, x_bin, x_neg, x_cmp, x_chain, x_isN, x_notN, x_and, x_and1, x_or, x_or1, x_not, x_ife, x_call, x_callP, x_bi, x_isi, x_listRg, x_ix, x_sl, x_tup, x_lst, x_comp, x_compIf, x_box, x_pop, x_popAt, x_append, x_nil, x_cons, x_seq, x_rng1, x_rng2, x_zip, x_asg, x_setix, x_aug, x_ex, x_if, x_for, x_while, x_ret, x_brk, x_cont, x_bnil, x_bcons, y_rt1, y_rtB, y_bin1, y_bin2, y_cmp1, y_cmp2, y_neg, y_isN, y_notN, y_andT, y_andF, y_orT, y_orF, y_not, y_ifT, y_ifF, y_chain1, y_chain2, y_chainT, y_chainF, y_chain3, y_cons1, y_cons2, y_call, y_callP, y_bi, y_isi, y_ix1, y_ix2, y_tup0, y_tup1, y_tup2, y_tup3, y_tup4, y_lst0, y_lst1, y_lst2, y_lst3, y_lc, y_box, y_pop, y_popAt1, y_popAt2, y_append1, y_append2, y_rtL, y_seq, y_seqT, y_seqL, y_rng21, y_zip1, y_zip2, y_zipT, y_zipL, y_rtE, y_asg, y_set1, y_set2, y_set3, y_aug, y_augA, y_augS, y_ex, y_ifST, y_ifSF, y_for, y_ret, y_nx, y_rt, y_bk, y_ct, y_fnR, y_fnN, y_nm, y_tp, y_tgn, y_tgc, y_tgk, v_add, v_sub, v_eqI, v_eqS, v_eqB, v_neI, v_neS, v_neB, v_lt, v_le, v_gt, v_ge, v_lenT, v_lenL, v_lenF, v_tupL, v_tupT, v_listL, v_listT, v_intI, v_intB, v_max, v_min, v_ixT, v_ixL, v_at0, v_at1, v_at2, y_lst4, y_lst5, y_lst6, y_lst7, y_tup5, y_tup6, y_sl1, y_sl1i, y_sl2, y_sl2i, y_sl3, v_slF, v_slL, v_slT, w_0, w_1, y_part, y_sl1v, y_sl1b, y_sl1n, y_sl2v, y_sl2b, y_sl2n, v_isTT, v_isTI, v_isTB, v_isTS, v_isIT, v_isII, v_isIB, v_isIS, v_isBT, v_isBI, v_isBB, v_isBS, v_isST, v_isSI, v_isSB, v_isSS, v_isN, x_rev, x_join, x_fmt, x_fstr, x_zipS, y_rev, y_join1, y_join2, y_fmt, y_fstr, y_rtS, y_zipS1, y_zipS2, v_revL, x_callF, y_callF, List.getElem?_cons_zero, List.getElem?_cons_succ, List.set_cons_zero, List.set_cons_succ, decide_true, decide_false, Int.reduceEq, Int.reduceLT, Int.reduceLE, decide_eq_true_eq, Bool.not_true, Bool.not_false, if_true, if_false, Bool.false_eq_true, l__law_names_0, lenP, f1, pa, v_slS sl, c1, c2, hnr, f2, f3, f4, b3k, f5, hc5, f6, fb, ap]
        | false =>
          refine ⟨_, _, _, y_nm, ?_, fin nw t5 nmN (by omega) y5⟩
          simp -implicitDefEqProofs only [x_var, y_var, x_con, x_glob, x_bin, x_neg, x_cmp, x_chain, x_isN, x_notN, x_and, x_and1, x_or, x_or1, x_not, x_ife, x_call, x_callP, x_bi, x_isi, x_listRg, x_ix, x_sl, x_tup, x_lst, x_comp, x_compIf, x_box, x_pop, x_popAt, x_append, x_nil, x_cons, x_seq, x_rng1, x_rng2, x_zip, x_asg, x_setix, x_aug, x_ex, x_if, x_for, x_while, x_ret, x_brk, x_cont, x_bnil, x_bcons, y_rt1, y_rtB, y_bin1, y_bin2, y_cmp1, y_cmp2, y_neg, y_isN, y_notN, y_andT, y_andF, y_orT, y_orF, y_not, y_ifT, y_ifF, y_chain1, y_chain2, y_chainT, y_chainF, y_chain3, y_cons1, y_cons2, y_call, y_callP, y_bi, y_isi, y_ix1, y_ix2, y_tup0, y_tup1, y_tup2, y_tup3, y_tup4, y_lst0, y_lst1, y_lst2, y_lst3, y_lc, y_box, y_pop, y_popAt1, y_popAt2, y_append1, y_append2, y_rtL, y_seq, y_seqT, y_seqL, y_rng21, y_zip1, y_zip2, y_zipT, y_zipL, y_rtE, y_asg, y_set1, y_set2, y_set3, y_aug, y_augA, y_augS, y_ex, y_ifST, y_ifSF, y_for, y_ret, y_nx, y_rt, y_bk, y_ct, y_fnR, y_fnN, y_nm, y_tp, y_tgn, y_tgc, y_tgk, v_add, v_sub, v_eqI, v_eqS, v_eqB, v_neI, v_neS, v_neB, v_lt, v_le, v_gt, v_ge, v_lenT, v_lenL, v_lenF, v_tupL, v_tupT, v_listL, v_listT, v_intI, v_intB, v_max, v_min, v_ixT, v_ixL, v_at0, v_at1, v_at2, y_lst4, y_lst5, y_lst6, y_lst7, y_tup5, y_tup6, y_sl1, y_sl1i, y_sl2, y_sl2i, y_sl3, v_slF, v_slL, v_slT, w_0, w_1, y_part, y_sl1v, y_sl1b, y_sl1n, y_sl2v, y_sl2b, y_sl2n, v_isTT, v_isTI, v_isTB, v_isTS, v_isIT, v_isII, v_isIB, v_isIS, v_isBT, v_isBI, v_isBB, v_isBS, v_isST, v_isSI, v_isSB, v_isSS, v_isN, x_rev, x_join, x_fmt, x_fstr, x_zipS, y_rev, y_join1, y_join2, y_fmt, y_fstr, y_rtS, y_zipS1, y_zipS2, v_revL, x_callF, y_callF, List.getElem?_cons_zero, List.getElem?_cons_succ, List.set_cons_zero, List.set_cons_succ, decide_true, decide_false, Int.reduceEq, Int.reduceLT, Int.reduceLE, decide_eq_true_eq, Bool.not_true, Bool.not_false, if_true, if_false, Bool.false_eq_true, l__law_names_0, lenP, f1, pa, v_slS sl, c1, c2, hnr, f2, f3, f4, b3k, f5, hc5, f6, fb, ap])
  rw [rangeD_len] at hssl k8
  refine ⟨ss, s8, ?_, hssl, hss, by omega, o8⟩
  have er : run tab G (n + 3) 6 [.ref 1, .int c] (mem s []) = some (.ref 3, mem s8 [.lst (po.map .str), .lst (ss.map .str)]) := by
    rw [run__law_names, r__law_names]
    have ea : (Str.ofString "abcdefghijklmnopqrstuvwxyz") = abc := rfl
    have eb : mem s [] ++ [.lst (pool.map .str)] = mem s [.lst (pool.map .str)] := rfl
    have el : (mem s []).length = 2 := rfl
    have eb2 : mem s7 [.lst (pool.map .str)] ++ [.lst []] = mem s7 [.lst (pool.map .str), .lst []] := rfl
    have el2 : (mem s7 [.lst (pool.map .str)]).length = 3 := rfl
    have eR : ∀ m : M, kRng1 (some (.int (c : Int), m)) = some (rangeD 0 c, m) := fun m => by rw [y_rng1 (rgOk_of (by omega) (by omega)), Int.toNat_natCast]
    have es : ∀ m : M, biD m .len [.str stem] = some (.int (stem.length : Int)) := fun m => by
      show (if stem.length ≤ lim then some (stem.length : Int) else none).map D.int = _
      rw [if_pos sl]; rfl
    simp -implicitDefEqProofs only [x_var, y_var, x_con, x_glob, x_bin, x_neg, x_cmp, x_chain, x_isN, x_notN, x_and, x_and1, x_or, x_or1, x_not, x_ife, x_call, x_callP, x_bi, x_isi, x_listRg, x_ix, x_sl, x_tup, x_lst, x_comp, x_compIf, x_box, x_pop, x_popAt, x_append, x_nil, x_cons, x_seq, x_rng1, x_rng2, x_zip, x_asg, x_setix, x_aug, x_ex, x_if, x_for, x_while, x_ret, x_brk, x_cont, x_bnil, x_bcons, y_rt1, y_rtB, y_bin1, y_bin2, y_cmp1, y_cmp2, y_neg, y_isN, y_notN, y_andT, y_andF, y_orT, y_orF, y_not, y_ifT, y_ifF, y_chain1, y_chain2, y_chainT, y_chainF, y_chain3, y_cons1, y_cons2, y_call, y_callP, y_bi, y_isi, y_ix1, y_ix2, y_tup0, y_tup1, y_tup2, y_tup3, y_tup4, y_lst0, y_lst1, y_lst2, y_lst3, y_lc, y_box, y_pop, y_popAt1, y_popAt2, y_append1, y_append2, y_rtL, y_seq, y_seqT, y_seqL, y_rng21, y_zip1, y_zip2, y_zipT, y_zipL, y_rtE, y_asg, y_set1, y_set2, y_set3, y_aug, y_augA, y_augS, y_ex, y_ifST, y_ifSF, y_for, y_ret, y_nx, y_rt, y_bk, y_ct, y_fnR, y_fnN, y_nm, y_tp, y_tgn, y_tgc, y_tgk, v_add, v_sub, v_eqI, v_eqS, v_eqB, v_neI, v_neS, v_neB, v_lt, v_le, v_gt, v_ge, v_lenT, v_lenL, v_lenF, v_tupL, v_tupT, v_listL, v_listT, v_intI, v_intB, v_max, v_min, v_ixT, v_ixL, v_at0, v_at1, v_at2, y_lst4, y_lst5, y_lst6, y_lst7, y_tup5, y_tup6, y_sl1, y_sl1i, y_sl2, y_sl2i, y_sl3, v_slF, v_slL, v_slT, w_0, w_1, y_part, y_sl1v, y_sl1b, y_sl1n, y_sl2v, y_sl2b, y_sl2n, v_isTT, v_isTI, v_isTB, v_isTS, v_isIT, v_isII, v_isIB, v_isIS, v_isBT, v_isBI, v_isBB, v_isBS, v_isST, v_isSI, v_isSB, v_isSS, v_isN, x_rev, x_join, x_fmt, x_fstr, x_zipS, y_rev, y_join1, y_join2, y_fmt, y_fstr, y_rtS, y_zipS1, y_zipS2, v_revL, x_callF, y_callF, List.getElem?_cons_zero, List.getElem?_cons_succ, List.set_cons_zero, List.set_cons_succ, decide_true, decide_false, Int.reduceEq, Int.reduceLT, Int.reduceLE, decide_eq_true_eq, Bool.not_true, Bool.not_false, if_true, if_false, Bool.false_eq_true, b__law_names, ea, hab, el, eb, e1, e2, e3, d3k, e4, e5, es, e6, e7, el2, eb2, eR, hf]
  rw [er]
  exact y_fresh (m2 := mem s8 []) (g := [.lst (po.map .str), .lst (ss.map .str)]) (l := 3) rfl (by show 2 ≤ 3; decide) rfl pures_strs bel_mem
end Lw

namespace Lw
open PySem Pv
theorem leaf_ok {G : List D} {n : Nat} {hs : List Str} (hh : ∀ x ∈ hs, nmOk x = true) (hl : hs.length ≤ 10) (s : Dk) (h : s.Ok) (hk : s.k + 5 < 2 ^ 40) :
    ∃ k s', run tab G (n + 2) 7 [.ref 1, .tup (hs.map .str)] (mem s []) = some (toK k, mem s' []) ∧ wf k = true ∧ kz k = 1 ∧ s'.k ≤ s.k + 5 ∧ s'.Ok := by
  obtain ⟨w, s1, e1, p1, q1, k1, o1⟩ := pick_run (G := G) (n := n) s h (by omega) 8 (by decide) (by decide) []
  rw [run__law_leaf, r__law_leaf]
  by_cases w0 : w = 0
  · subst w0
    exact ⟨.truth, s1, by simp -implicitDefEqProofs only [x_var, y_var, x_con, x_glob, x_bin, x_neg, x_cmp, x_chain, x_isN, x_notN, x_and, x_and1, x_or, x_or1, x_not, x_ife, x_call, x_callP, x_bi, x_isi, x_listRg, x_ix, x_sl, x_tup, x_lst, x_comp, x_compIf, x_box, x_pop, x_popAt, x_append, x_nil, x_cons, x_seq, x_rng1, x_rng2, x_zip, x_asg, x_setix, x_aug, x_ex, x_if, x_for, x_while, x_ret, x_brk, x_cont, x_bnil, x_bcons, y_rt1, y_rtB, y_bin1, y_bin2, y_cmp1, y_cmp2, y_neg, y_isN, y_notN, y_andT, y_andF, y_orT, y_orF, y_not, y_ifT, y_ifF, y_chain1, y_chain2, y_chainT, y_chainF, y_chain3, y_cons1, y_cons2, y_call, y_callP, y_bi, y_isi, y_ix1, y_ix2, y_tup0, y_tup1, y_tup2, y_tup3, y_tup4, y_lst0, y_lst1, y_lst2, y_lst3, y_lc, y_box, y_pop, y_popAt1, y_popAt2, y_append1, y_append2, y_rtL, y_seq, y_seqT, y_seqL, y_rng21, y_zip1, y_zip2, y_zipT, y_zipL, y_rtE, y_asg, y_set1, y_set2, y_set3, y_aug, y_augA, y_augS, y_ex, y_ifST, y_ifSF, y_for, y_ret, y_nx, y_rt, y_bk, y_ct, y_fnR, y_fnN, y_nm, y_tp, y_tgn, y_tgc, y_tgk, v_add, v_sub, v_eqI, v_eqS, v_eqB, v_neI, v_neS, v_neB, v_lt, v_le, v_gt, v_ge, v_lenT, v_lenL, v_lenF, v_tupL, v_tupT, v_listL, v_listT, v_intI, v_intB, v_max, v_min, v_ixT, v_ixL, v_at0, v_at1, v_at2, y_lst4, y_lst5, y_lst6, y_lst7, y_tup5, y_tup6, y_sl1, y_sl1i, y_sl2, y_sl2i, y_sl3, v_slF, v_slL, v_slT, w_0, w_1, y_part, y_sl1v, y_sl1b, y_sl1n, y_sl2v, y_sl2b, y_sl2n, v_isTT, v_isTI, v_isTB, v_isTS, v_isIT, v_isII, v_isIB, v_isIS, v_isBT, v_isBI, v_isBB, v_isBS, v_isST, v_isSI, v_isSB, v_isSS, v_isN, x_rev, x_join, x_fmt, x_fstr, x_zipS, y_rev, y_join1, y_join2, y_fmt, y_fstr, y_rtS, y_zipS1, y_zipS2, v_revL, x_callF, y_callF, List.getElem?_cons_zero, List.getElem?_cons_succ, List.set_cons_zero, List.set_cons_succ, decide_true, decide_false, Int.reduceEq, Int.reduceLT, Int.reduceLE, decide_eq_true_eq, Bool.not_true, Bool.not_false, if_true, if_false, Bool.false_eq_true, b__law_leaf, e1, toK], rfl, rfl, by omega, o1⟩
  by_cases w1 : w = 1
  · subst w1
    exact ⟨.rcd false .nil, s1, by simp -implicitDefEqProofs only [x_var, y_var, x_con, x_glob, x_bin, x_neg, x_cmp, x_chain, x_isN, x_notN, x_and, x_and1, x_or, x_or1, x_not, x_ife, x_call, x_callP, x_bi, x_isi, x_listRg, x_ix, x_sl, x_tup, x_lst, x_comp, x_compIf, x_box, x_pop, x_popAt, x_append, x_nil, x_cons, x_seq, x_rng1, x_rng2, x_zip, x_asg, x_setix, x_aug, x_ex, x_if, x_for, x_while, x_ret, x_brk, x_cont, x_bnil, x_bcons, y_rt1, y_rtB, y_bin1, y_bin2, y_cmp1, y_cmp2, y_neg, y_isN, y_notN, y_andT, y_andF, y_orT, y_orF, y_not, y_ifT, y_ifF, y_chain1, y_chain2, y_chainT, y_chainF, y_chain3, y_cons1, y_cons2, y_call, y_callP, y_bi, y_isi, y_ix1, y_ix2, y_tup0, y_tup1, y_tup2, y_tup3, y_tup4, y_lst0, y_lst1, y_lst2, y_lst3, y_lc, y_box, y_pop, y_popAt1, y_popAt2, y_append1, y_append2, y_rtL, y_seq, y_seqT, y_seqL, y_rng21, y_zip1, y_zip2, y_zipT, y_zipL, y_rtE, y_asg, y_set1, y_set2, y_set3, y_aug, y_augA, y_augS, y_ex, y_ifST, y_ifSF, y_for, y_ret, y_nx, y_rt, y_bk, y_ct, y_fnR, y_fnN, y_nm, y_tp, y_tgn, y_tgc, y_tgk, v_add, v_sub, v_eqI, v_eqS, v_eqB, v_neI, v_neS, v_neB, v_lt, v_le, v_gt, v_ge, v_lenT, v_lenL, v_lenF, v_tupL, v_tupT, v_listL, v_listT, v_intI, v_intB, v_max, v_min, v_ixT, v_ixL, v_at0, v_at1, v_at2, y_lst4, y_lst5, y_lst6, y_lst7, y_tup5, y_tup6, y_sl1, y_sl1i, y_sl2, y_sl2i, y_sl3, v_slF, v_slL, v_slT, w_0, w_1, y_part, y_sl1v, y_sl1b, y_sl1n, y_sl2v, y_sl2b, y_sl2n, v_isTT, v_isTI, v_isTB, v_isTS, v_isIT, v_isII, v_isIB, v_isIS, v_isBT, v_isBI, v_isBB, v_isBS, v_isST, v_isSI, v_isSB, v_isSS, v_isN, x_rev, x_join, x_fmt, x_fstr, x_zipS, y_rev, y_join1, y_join2, y_fmt, y_fstr, y_rtS, y_zipS1, y_zipS2, v_revL, x_callF, y_callF, List.getElem?_cons_zero, List.getElem?_cons_succ, List.set_cons_zero, List.set_cons_succ, decide_true, decide_false, Int.reduceEq, Int.reduceLT, Int.reduceLE, decide_eq_true_eq, Bool.not_true, Bool.not_false, if_true, if_false, Bool.false_eq_true, b__law_leaf, e1, toK, psD, wRec_f], rfl, rfl, by omega, o1⟩
  have num : ∃ k s', kFn (evB (run tab G (n + 1)) G (.cons (.asg (.nm 3) (.bin .add (.con (.int 1)) (.call 3 (.cons (.var 0) (.cons (.con (.int 64)) .nil))))) (.cons (.ife (.cmp .eq (.call 3 (.cons (.var 0) (.cons (.con (.int 2)) .nil))) (.con (.int 0))) (.cons (.asg (.nm 3) (.bin .mul (.con (.int 8)) (.bin .add (.con (.int 1)) (.bin .mod (.var 3) (.con (.int 8)))))) .nil) .nil) (.cons (.ret (.tup (.cons (.ix (.lst (.cons (.con (.str "nat")) (.cons (.con (.str "int")) .nil))) (.bin .mod (.var 2) (.con (.int 2)))) (.cons (.var 3) .nil)))) .nil))) [some (.ref 1), some (.tup (hs.map .str)), some (.int w), none] (mem s1 [])) = some (toK k, mem s' []) ∧ wf k = true ∧ kz k = 1 ∧ s'.k ≤ s.k + 5 ∧ s'.Ok := by
    obtain ⟨b, s2, e2, p2, q2, k2, o2⟩ := pick_run (G := G) (n := n) s1 o1 (by omega) 64 (by decide) (by decide) []
    obtain ⟨z, s3, e3, p3, q3, k3, o3⟩ := pick_run (G := G) (n := n) s2 o2 (by omega) 2 (by decide) (by decide) []
    have hw : w % 2 = 0 ∨ w % 2 = 1 := by omega
    have m8 : ∀ m : M, bopD m .mod (.int (1 + b)) (.int 8) = some (.int ((1 + b) % 8)) := fun m => v_mod (by decide)
    have m2 : ∀ m : M, bopD m .mod (.int w) (.int 2) = some (.int (w % 2)) := fun m => v_mod (by decide)
    have fin : ∀ c : Int, 0 ≤ c → c < 100 → ∃ i, atD [.str "nat", .str "int"] (w % 2) = some (.str (wNum i)) ∧ ∀ i, toK (.num i c.toNat) = .tup [.str (wNum i), .int c] := by
      intro c h0 h1
      have e : ((c.toNat : Nat) : Int) = c := by omega
      rcases hw with e1 | e1
      · exact ⟨false, by rw [e1]; exact v_at0, fun i => by rw [toK, e]⟩
      · exact ⟨true, by rw [e1]; exact v_at1, fun i => by rw [toK, e]⟩
    by_cases hz : z = 0
    · subst hz
      have b1 : 0 ≤ (1 + b) % 8 := Int.emod_nonneg _ (by decide)
      have b2 : (1 + b) % 8 < 8 := Int.emod_lt_of_pos _ (by decide)
      have mu : ∀ m : M, bopD m .mul (.int 8) (.int (1 + (1 + b) % 8)) = some (.int (8 * (1 + (1 + b) % 8))) := fun m => v_mul (mulOk_l (i := 8) (by decide) (by decide))
      obtain ⟨i, f1, f2⟩ := fin (8 * (1 + (1 + b) % 8)) (by omega) (by omega)
      refine ⟨.num i (8 * (1 + (1 + b) % 8)).toNat, s3, ?_, by simp [wf]; omega, rfl, by omega, o3⟩
      rw [f2]
      simp -implicitDefEqProofs only [x_var, y_var, x_con, x_glob, x_bin, x_neg, x_cmp, x_chain, x_isN, x_notN, x_and, x_and1, x_or, x_or1, x_not, x_ife, x_call, x_callP, x_bi, x_isi, x_listRg, x_ix, x_sl, x_tup, x_lst, x_comp, x_compIf, x_box, x_pop, x_popAt, x_append, x_nil, x_cons, x_seq, x_rng1, x_rng2, x_zip, x_asg, x_setix, x_aug, x_ex, x_if, x_for, x_while, x_ret, x_brk, x_cont, x_bnil, x_bcons, y_rt1, y_rtB, y_bin1, y_bin2, y_cmp1, y_cmp2, y_neg, y_isN, y_notN, y_andT, y_andF, y_orT, y_orF, y_not, y_ifT, y_ifF, y_chain1, y_chain2, y_chainT, y_chainF, y_chain3, y_cons1, y_cons2, y_call, y_callP, y_bi, y_isi, y_ix1, y_ix2, y_tup0, y_tup1, y_tup2, y_tup3, y_tup4, y_lst0, y_lst1, y_lst2, y_lst3, y_lc, y_box, y_pop, y_popAt1, y_popAt2, y_append1, y_append2, y_rtL, y_seq, y_seqT, y_seqL, y_rng21, y_zip1, y_zip2, y_zipT, y_zipL, y_rtE, y_asg, y_set1, y_set2, y_set3, y_aug, y_augA, y_augS, y_ex, y_ifST, y_ifSF, y_for, y_ret, y_nx, y_rt, y_bk, y_ct, y_fnR, y_fnN, y_nm, y_tp, y_tgn, y_tgc, y_tgk, v_add, v_sub, v_eqI, v_eqS, v_eqB, v_neI, v_neS, v_neB, v_lt, v_le, v_gt, v_ge, v_lenT, v_lenL, v_lenF, v_tupL, v_tupT, v_listL, v_listT, v_intI, v_intB, v_max, v_min, v_ixT, v_ixL, v_at0, v_at1, v_at2, y_lst4, y_lst5, y_lst6, y_lst7, y_tup5, y_tup6, y_sl1, y_sl1i, y_sl2, y_sl2i, y_sl3, v_slF, v_slL, v_slT, w_0, w_1, y_part, y_sl1v, y_sl1b, y_sl1n, y_sl2v, y_sl2b, y_sl2n, v_isTT, v_isTI, v_isTB, v_isTS, v_isIT, v_isII, v_isIB, v_isIS, v_isBT, v_isBI, v_isBB, v_isBS, v_isST, v_isSI, v_isSB, v_isSS, v_isN, x_rev, x_join, x_fmt, x_fstr, x_zipS, y_rev, y_join1, y_join2, y_fmt, y_fstr, y_rtS, y_zipS1, y_zipS2, v_revL, x_callF, y_callF, List.getElem?_cons_zero, List.getElem?_cons_succ, List.set_cons_zero, List.set_cons_succ, decide_true, decide_false, Int.reduceEq, Int.reduceLT, Int.reduceLE, decide_eq_true_eq, Bool.not_true, Bool.not_false, if_true, if_false, Bool.false_eq_true, e2, e3, m8, mu, m2, f1]
    · obtain ⟨i, f1, f2⟩ := fin (1 + b) (by omega) (by omega)
      refine ⟨.num i (1 + b).toNat, s3, ?_, by simp [wf]; omega, rfl, by omega, o3⟩
      rw [f2]
      simp -implicitDefEqProofs only [x_var, y_var, x_con, x_glob, x_bin, x_neg, x_cmp, x_chain, x_isN, x_notN, x_and, x_and1, x_or, x_or1, x_not, x_ife, x_call, x_callP, x_bi, x_isi, x_listRg, x_ix, x_sl, x_tup, x_lst, x_comp, x_compIf, x_box, x_pop, x_popAt, x_append, x_nil, x_cons, x_seq, x_rng1, x_rng2, x_zip, x_asg, x_setix, x_aug, x_ex, x_if, x_for, x_while, x_ret, x_brk, x_cont, x_bnil, x_bcons, y_rt1, y_rtB, y_bin1, y_bin2, y_cmp1, y_cmp2, y_neg, y_isN, y_notN, y_andT, y_andF, y_orT, y_orF, y_not, y_ifT, y_ifF, y_chain1, y_chain2, y_chainT, y_chainF, y_chain3, y_cons1, y_cons2, y_call, y_callP, y_bi, y_isi, y_ix1, y_ix2, y_tup0, y_tup1, y_tup2, y_tup3, y_tup4, y_lst0, y_lst1, y_lst2, y_lst3, y_lc, y_box, y_pop, y_popAt1, y_popAt2, y_append1, y_append2, y_rtL, y_seq, y_seqT, y_seqL, y_rng21, y_zip1, y_zip2, y_zipT, y_zipL, y_rtE, y_asg, y_set1, y_set2, y_set3, y_aug, y_augA, y_augS, y_ex, y_ifST, y_ifSF, y_for, y_ret, y_nx, y_rt, y_bk, y_ct, y_fnR, y_fnN, y_nm, y_tp, y_tgn, y_tgc, y_tgk, v_add, v_sub, v_eqI, v_eqS, v_eqB, v_neI, v_neS, v_neB, v_lt, v_le, v_gt, v_ge, v_lenT, v_lenL, v_lenF, v_tupL, v_tupT, v_listL, v_listT, v_intI, v_intB, v_max, v_min, v_ixT, v_ixL, v_at0, v_at1, v_at2, y_lst4, y_lst5, y_lst6, y_lst7, y_tup5, y_tup6, y_sl1, y_sl1i, y_sl2, y_sl2i, y_sl3, v_slF, v_slL, v_slT, w_0, w_1, y_part, y_sl1v, y_sl1b, y_sl1n, y_sl2v, y_sl2b, y_sl2n, v_isTT, v_isTI, v_isTB, v_isTS, v_isIT, v_isII, v_isIB, v_isIS, v_isBT, v_isBI, v_isBB, v_isBS, v_isST, v_isSI, v_isSB, v_isSS, v_isN, x_rev, x_join, x_fmt, x_fstr, x_zipS, y_rev, y_join1, y_join2, y_fmt, y_fstr, y_rtS, y_zipS1, y_zipS2, v_revL, x_callF, y_callF, List.getElem?_cons_zero, List.getElem?_cons_succ, List.set_cons_zero, List.set_cons_succ, decide_true, decide_false, Int.reduceEq, Int.reduceLT, Int.reduceLE, decide_eq_true_eq, Bool.not_true, Bool.not_false, if_true, if_false, Bool.false_eq_true, e2, e3, hz, m2, f1]
  by_cases w4 : w < 4
  · by_cases hp : hs = []
    · obtain ⟨k, s', e, q⟩ := num
      refine ⟨k, s', ?_, q⟩
      rw [← e]
      have l0 : ((0 : Int) < ((hs.map D.str).length : Int)) = False := by rw [hp]; simp
      simp -implicitDefEqProofs only [x_var, y_var, x_con, x_glob, x_bin, x_neg, x_cmp, x_chain, x_isN, x_notN, x_and, x_and1, x_or, x_or1, x_not, x_ife, x_call, x_callP, x_bi, x_isi, x_listRg, x_ix, x_sl, x_tup, x_lst, x_comp, x_compIf, x_box, x_pop, x_popAt, x_append, x_nil, x_cons, x_seq, x_rng1, x_rng2, x_zip, x_asg, x_setix, x_aug, x_ex, x_if, x_for, x_while, x_ret, x_brk, x_cont, x_bnil, x_bcons, y_rt1, y_rtB, y_bin1, y_bin2, y_cmp1, y_cmp2, y_neg, y_isN, y_notN, y_andT, y_andF, y_orT, y_orF, y_not, y_ifT, y_ifF, y_chain1, y_chain2, y_chainT, y_chainF, y_chain3, y_cons1, y_cons2, y_call, y_callP, y_bi, y_isi, y_ix1, y_ix2, y_tup0, y_tup1, y_tup2, y_tup3, y_tup4, y_lst0, y_lst1, y_lst2, y_lst3, y_lc, y_box, y_pop, y_popAt1, y_popAt2, y_append1, y_append2, y_rtL, y_seq, y_seqT, y_seqL, y_rng21, y_zip1, y_zip2, y_zipT, y_zipL, y_rtE, y_asg, y_set1, y_set2, y_set3, y_aug, y_augA, y_augS, y_ex, y_ifST, y_ifSF, y_for, y_ret, y_nx, y_rt, y_bk, y_ct, y_fnR, y_fnN, y_nm, y_tp, y_tgn, y_tgc, y_tgk, v_add, v_sub, v_eqI, v_eqS, v_eqB, v_neI, v_neS, v_neB, v_lt, v_le, v_gt, v_ge, v_lenT, v_lenL, v_lenF, v_tupL, v_tupT, v_listL, v_listT, v_intI, v_intB, v_max, v_min, v_ixT, v_ixL, v_at0, v_at1, v_at2, y_lst4, y_lst5, y_lst6, y_lst7, y_tup5, y_tup6, y_sl1, y_sl1i, y_sl2, y_sl2i, y_sl3, v_slF, v_slL, v_slT, w_0, w_1, y_part, y_sl1v, y_sl1b, y_sl1n, y_sl2v, y_sl2b, y_sl2n, v_isTT, v_isTI, v_isTB, v_isTS, v_isIT, v_isII, v_isIB, v_isIS, v_isBT, v_isBI, v_isBB, v_isBS, v_isST, v_isSI, v_isSB, v_isSS, v_isN, x_rev, x_join, x_fmt, x_fstr, x_zipS, y_rev, y_join1, y_join2, y_fmt, y_fstr, y_rtS, y_zipS1, y_zipS2, v_revL, x_callF, y_callF, List.getElem?_cons_zero, List.getElem?_cons_succ, List.set_cons_zero, List.set_cons_succ, decide_true, decide_false, Int.reduceEq, Int.reduceLT, Int.reduceLE, decide_eq_true_eq, Bool.not_true, Bool.not_false, if_true, if_false, Bool.false_eq_true, b__law_leaf, e1, w0, w1, w4, l0]
    · have hpos : 0 < hs.length := List.length_pos_iff.mpr hp
      have l0 : ((0 : Int) < ((hs.map D.str).length : Int)) = True := by rw [List.length_map]; simp only [eq_iff_iff, iff_true]; omega
      obtain ⟨b, s2, e2, p2, q2, k2, o2⟩ := pick_run (G := G) (n := n) s1 o1 (by omega) ((hs.map D.str).length : Int) (by rw [List.length_map]; omega) (by rw [List.length_map]; omega) []
      obtain ⟨x, ex, y, rfl, hy⟩ := at_any (P := fun x => ∃ y, x = .str y ∧ nmOk y = true) (l := hs.map .str) (by
        intro x hx
        obtain ⟨y, hy, rfl⟩ := List.mem_map.mp hx
        exact ⟨y, rfl, hh y hy⟩) p2 q2
      exact ⟨.hole y, s2, by simp -implicitDefEqProofs only [x_var, y_var, x_con, x_glob, x_bin, x_neg, x_cmp, x_chain, x_isN, x_notN, x_and, x_and1, x_or, x_or1, x_not, x_ife, x_call, x_callP, x_bi, x_isi, x_listRg, x_ix, x_sl, x_tup, x_lst, x_comp, x_compIf, x_box, x_pop, x_popAt, x_append, x_nil, x_cons, x_seq, x_rng1, x_rng2, x_zip, x_asg, x_setix, x_aug, x_ex, x_if, x_for, x_while, x_ret, x_brk, x_cont, x_bnil, x_bcons, y_rt1, y_rtB, y_bin1, y_bin2, y_cmp1, y_cmp2, y_neg, y_isN, y_notN, y_andT, y_andF, y_orT, y_orF, y_not, y_ifT, y_ifF, y_chain1, y_chain2, y_chainT, y_chainF, y_chain3, y_cons1, y_cons2, y_call, y_callP, y_bi, y_isi, y_ix1, y_ix2, y_tup0, y_tup1, y_tup2, y_tup3, y_tup4, y_lst0, y_lst1, y_lst2, y_lst3, y_lc, y_box, y_pop, y_popAt1, y_popAt2, y_append1, y_append2, y_rtL, y_seq, y_seqT, y_seqL, y_rng21, y_zip1, y_zip2, y_zipT, y_zipL, y_rtE, y_asg, y_set1, y_set2, y_set3, y_aug, y_augA, y_augS, y_ex, y_ifST, y_ifSF, y_for, y_ret, y_nx, y_rt, y_bk, y_ct, y_fnR, y_fnN, y_nm, y_tp, y_tgn, y_tgc, y_tgk, v_add, v_sub, v_eqI, v_eqS, v_eqB, v_neI, v_neS, v_neB, v_lt, v_le, v_gt, v_ge, v_lenT, v_lenL, v_lenF, v_tupL, v_tupT, v_listL, v_listT, v_intI, v_intB, v_max, v_min, v_ixT, v_ixL, v_at0, v_at1, v_at2, y_lst4, y_lst5, y_lst6, y_lst7, y_tup5, y_tup6, y_sl1, y_sl1i, y_sl2, y_sl2i, y_sl3, v_slF, v_slL, v_slT, w_0, w_1, y_part, y_sl1v, y_sl1b, y_sl1n, y_sl2v, y_sl2b, y_sl2n, v_isTT, v_isTI, v_isTB, v_isTS, v_isIT, v_isII, v_isIB, v_isIS, v_isBT, v_isBI, v_isBB, v_isBS, v_isST, v_isSI, v_isSB, v_isSS, v_isN, x_rev, x_join, x_fmt, x_fstr, x_zipS, y_rev, y_join1, y_join2, y_fmt, y_fstr, y_rtS, y_zipS1, y_zipS2, v_revL, x_callF, y_callF, List.getElem?_cons_zero, List.getElem?_cons_succ, List.set_cons_zero, List.set_cons_succ, decide_true, decide_false, Int.reduceEq, Int.reduceLT, Int.reduceLE, decide_eq_true_eq, Bool.not_true, Bool.not_false, if_true, if_false, Bool.false_eq_true, b__law_leaf, e1, w0, w1, w4, l0, e2, ex, toK], hy, rfl, by omega, o2⟩
  · obtain ⟨k, s', e, q⟩ := num
    refine ⟨k, s', ?_, q⟩
    rw [← e]
    simp -implicitDefEqProofs only [x_var, y_var, x_con, x_glob, x_bin, x_neg, x_cmp, x_chain, x_isN, x_notN, x_and, x_and1, x_or, x_or1, x_not, x_ife, x_call, x_callP, x_bi, x_isi, x_listRg, x_ix, x_sl, x_tup, x_lst, x_comp, x_compIf, x_box, x_pop, x_popAt, x_append, x_nil, x_cons, x_seq, x_rng1, x_rng2, x_zip, x_asg, x_setix, x_aug, x_ex, x_if, x_for, x_while, x_ret, x_brk, x_cont, x_bnil, x_bcons, y_rt1, y_rtB, y_bin1, y_bin2, y_cmp1, y_cmp2, y_neg, y_isN, y_notN, y_andT, y_andF, y_orT, y_orF, y_not, y_ifT, y_ifF, y_chain1, y_chain2, y_chainT, y_chainF, y_chain3, y_cons1, y_cons2, y_call, y_callP, y_bi, y_isi, y_ix1, y_ix2, y_tup0, y_tup1, y_tup2, y_tup3, y_tup4, y_lst0, y_lst1, y_lst2, y_lst3, y_lc, y_box, y_pop, y_popAt1, y_popAt2, y_append1, y_append2, y_rtL, y_seq, y_seqT, y_seqL, y_rng21, y_zip1, y_zip2, y_zipT, y_zipL, y_rtE, y_asg, y_set1, y_set2, y_set3, y_aug, y_augA, y_augS, y_ex, y_ifST, y_ifSF, y_for, y_ret, y_nx, y_rt, y_bk, y_ct, y_fnR, y_fnN, y_nm, y_tp, y_tgn, y_tgc, y_tgk, v_add, v_sub, v_eqI, v_eqS, v_eqB, v_neI, v_neS, v_neB, v_lt, v_le, v_gt, v_ge, v_lenT, v_lenL, v_lenF, v_tupL, v_tupT, v_listL, v_listT, v_intI, v_intB, v_max, v_min, v_ixT, v_ixL, v_at0, v_at1, v_at2, y_lst4, y_lst5, y_lst6, y_lst7, y_tup5, y_tup6, y_sl1, y_sl1i, y_sl2, y_sl2i, y_sl3, v_slF, v_slL, v_slT, w_0, w_1, y_part, y_sl1v, y_sl1b, y_sl1n, y_sl2v, y_sl2b, y_sl2n, v_isTT, v_isTI, v_isTB, v_isTS, v_isIT, v_isII, v_isIB, v_isIS, v_isBT, v_isBI, v_isBB, v_isBS, v_isST, v_isSI, v_isSB, v_isSS, v_isN, x_rev, x_join, x_fmt, x_fstr, x_zipS, y_rev, y_join1, y_join2, y_fmt, y_fstr, y_rtS, y_zipS1, y_zipS2, v_revL, x_callF, y_callF, List.getElem?_cons_zero, List.getElem?_cons_succ, List.set_cons_zero, List.set_cons_succ, decide_true, decide_false, Int.reduceEq, Int.reduceLT, Int.reduceLE, decide_eq_true_eq, Bool.not_true, Bool.not_false, if_true, if_false, Bool.false_eq_true, b__law_leaf, e1, w0, w1, w4]
/-! lists of parts -/
def Ps.of : List (Str × Kd) → Ps
  | [] => .nil
  | p :: r => .cons p.1 p.2 (Ps.of r)
def Ks.of : List Kd → Ks
  | [] => .nil
  | p :: r => .cons p (Ks.of r)
abbrev pk (p : Str × Kd) : D := .tup [.str p.1, toK p.2]
theorem of_psD : ∀ {l : List (Str × Kd)}, psD (Ps.of l) = l.map pk
  | [] => rfl
  | p :: r => by simp only [Ps.of, psD, of_psD, List.map_cons]
theorem of_ksD : ∀ {l : List Kd}, ksD (Ks.of l) = l.map toK
  | [] => rfl
  | p :: r => by simp only [Ks.of, ksD, of_ksD, List.map_cons]
theorem of_wfp : ∀ {l : List (Str × Kd)}, (∀ p ∈ l, nmOk p.1 = true ∧ wf p.2 = true) → wfp (Ps.of l) = true
  | [], _ => rfl
  | p :: r, h => by
    have a := h p List.mem_cons_self
    simp only [Ps.of, wfp, a.1, a.2, of_wfp fun q hq => h q (List.mem_cons_of_mem _ hq), Bool.and_self]
theorem of_wfk : ∀ {l : List Kd}, (∀ p ∈ l, wf p = true) → wfk (Ks.of l) = true
  | [], _ => rfl
  | p :: r, h => by
    simp only [Ks.of, wfk, h p List.mem_cons_self, of_wfk fun q hq => h q (List.mem_cons_of_mem _ hq), Bool.and_self]
theorem of_pz {b : Nat} : ∀ {l : List (Str × Kd)}, (∀ p ∈ l, kz p.2 ≤ b) → pz (Ps.of l) ≤ l.length * b
  | [], _ => by simp [Ps.of, pz]
  | p :: r, h => by
    have a := h p List.mem_cons_self
    have c := of_pz (l := r) fun q hq => h q (List.mem_cons_of_mem _ hq)
    simp only [Ps.of, pz, List.length_cons, Nat.succ_mul]
    omega
theorem of_fz {b : Nat} : ∀ {l : List Kd}, (∀ p ∈ l, kz p ≤ b) → fz (Ks.of l) ≤ l.length * b
  | [], _ => by simp [Ks.of, fz]
  | p :: r, h => by
    have a := h p List.mem_cons_self
    have c := of_fz (l := r) fun q hq => h q (List.mem_cons_of_mem _ hq)
    simp only [Ks.of, fz, List.length_cons, Nat.succ_mul]
    omega
abbrev hdD (p : Str × Nat) : D := .tup [.str p.1, .int (p.2 : Int)]
theorem eq_heads {m : M} {hd : List (Str × Nat)} (h : hd ≠ []) (hn : ∀ p ∈ hd, nmOk p.1 = true) : cmpD m .eq (.lst (hd.map hdD)) (.lst []) = some false := by
  have q : pures (hd.map hdD) = true ∧ PyData.canLayAll0 (toPs (hd.map hdD)) = true := by
    clear h
    induction hd with
    | nil => exact ⟨rfl, by simp [toPs, PyData.canLayAll0]⟩
    | cons p r ih =>
      have a := ih fun x hx => hn x (List.mem_cons_of_mem _ hx)
      have b := nm_all (hn p List.mem_cons_self)
      have c : PyData.strOk p.1 = true := by
        unfold PyData.strOk
        rw [Array.all_eq_true_iff_forall_mem]
        intro x hx
        have := List.all_eq_true.mp b x (Array.mem_toList_iff.mpr hx)
        simp only [ltr, Bool.and_eq_true, decide_eq_true_eq] at this
        exact decide_eq_true (by omega)
      refine ⟨?_, ?_⟩
      · rw [List.map_cons, pures, a.1]; rfl
      · rw [List.map_cons, toPs, PyData.canLayAll0, a.2]
        simp [toP, toPs, PyData.canLay0, PyData.canLayAll0, c]
  have e : eqOk (.lst (hd.map hdD)) (.lst []) = true := by
    have d : (PyData.list []).depth ≤ 64 := by decide
    have e1 : pure_ (.lst []) = true := rfl
    have e2 : (toP (.lst [])).canLay0 = true := by simp only [toP, toPs, PyData.canLay0, PyData.canLayAll0]
    have e3 : pure_ (.lst (hd.map hdD)) = true := by rw [pure_]; exact q.1
    have e4 : (toP (.lst (hd.map hdD))).canLay0 = true := by rw [toP, PyData.canLay0]; exact q.2
    unfold eqOk
    rw [e1, e2, e3, e4]
    exact decide_eq_true (Nat.le_trans (Nat.min_le_right _ _) d)
  show (if eqOk (.lst (hd.map hdD)) (.lst []) = true then some (PyData.eqv (toP (.lst (hd.map hdD))) (toP (.lst []))) else none) = _
  rw [if_pos e]
  cases hd with
  | nil => exact absurd rfl h
  | cons x r => simp only [List.map_cons, toP, toPs, PyData.eqv, PyData.eqvAll]
def TK : Nat → Nat
  | 0 => 10
  | d + 1 => 1100 + 9 * TK d
theorem TK_ge : ∀ d, 10 ≤ TK d
  | 0 => by decide
  | d + 1 => by unfold TK; omega
theorem kind_ok {G : List D} {n0 : Nat} {hs : List Str} (hh : ∀ x ∈ hs, nmOk x = true) (hl : hs.length ≤ 10) {hd : List (Str × Nat)} (hd0 : hd ≠ []) (hdl : hd.length ≤ 10) (hdn : ∀ p ∈ hd, nmOk p.1 = true ∧ p.2 ≤ 3) : ∀ (d : Nat) (deep : Int) (room : Nat) (s : Dk), deep ≤ d → room ≤ 50 → s.Ok → s.k + TK d < 2 ^ 40 →
    ∃ k s', run tab G (n0 + d + 4) 8 [.ref 1, .lst (hd.map hdD), .tup (hs.map .str), .int deep, .int room] (mem s []) = some (toK k, mem s' []) ∧ wf k = true ∧ kz k ≤ max 1 room ∧ s'.k ≤ s.k + TK d ∧ s'.Ok := by
  intro d
  induction d with
  | zero =>
    intro deep room s hde hr h hk
    simp only [TK] at hk ⊢
    obtain ⟨w, s1, e1, p1, q1, k1, o1⟩ := pick_run (G := G) (n := n0 + 2) s h (by omega) 11 (by decide) (by decide) []
    obtain ⟨k, s2, e2, w2, z2, k2, o2⟩ := leaf_ok (G := G) (n := n0 + 1) hh hl s1 o1 (by omega)
    refine ⟨k, s2, ?_, w2, by omega, by omega, o2⟩
    rw [show n0 + 0 + 4 = (n0 + 3) + 1 by omega, run__law_kind, r__law_kind]
    have c : (deep < 2) = True := by simp only [eq_iff_iff, iff_true]; omega
    simp -implicitDefEqProofs only [x_var, y_var, x_con, x_glob, x_bin, x_neg, x_cmp, x_chain, x_isN, x_notN, x_and, x_and1, x_or, x_or1, x_not, x_ife, x_call, x_callP, x_bi, x_isi, x_listRg, x_ix, x_sl, x_tup, x_lst, x_comp, x_compIf, x_box, x_pop, x_popAt, x_append, x_nil, x_cons, x_seq, x_rng1, x_rng2, x_zip, x_asg, x_setix, x_aug, x_ex, x_if, x_for, x_while, x_ret, x_brk, x_cont, x_bnil, x_bcons, y_rt1, y_rtB, y_bin1, y_bin2, y_cmp1, y_cmp2, y_neg, y_isN, y_notN, y_andT, y_andF, y_orT, y_orF, y_not, y_ifT, y_ifF, y_chain1, y_chain2, y_chainT, y_chainF, y_chain3, y_cons1, y_cons2, y_call, y_callP, y_bi, y_isi, y_ix1, y_ix2, y_tup0, y_tup1, y_tup2, y_tup3, y_tup4, y_lst0, y_lst1, y_lst2, y_lst3, y_lc, y_box, y_pop, y_popAt1, y_popAt2, y_append1, y_append2, y_rtL, y_seq, y_seqT, y_seqL, y_rng21, y_zip1, y_zip2, y_zipT, y_zipL, y_rtE, y_asg, y_set1, y_set2, y_set3, y_aug, y_augA, y_augS, y_ex, y_ifST, y_ifSF, y_for, y_ret, y_nx, y_rt, y_bk, y_ct, y_fnR, y_fnN, y_nm, y_tp, y_tgn, y_tgc, y_tgk, v_add, v_sub, v_eqI, v_eqS, v_eqB, v_neI, v_neS, v_neB, v_lt, v_le, v_gt, v_ge, v_lenT, v_lenL, v_lenF, v_tupL, v_tupT, v_listL, v_listT, v_intI, v_intB, v_max, v_min, v_ixT, v_ixL, v_at0, v_at1, v_at2, y_lst4, y_lst5, y_lst6, y_lst7, y_tup5, y_tup6, y_sl1, y_sl1i, y_sl2, y_sl2i, y_sl3, v_slF, v_slL, v_slT, w_0, w_1, y_part, y_sl1v, y_sl1b, y_sl1n, y_sl2v, y_sl2b, y_sl2n, v_isTT, v_isTI, v_isTB, v_isTS, v_isIT, v_isII, v_isIB, v_isIS, v_isBT, v_isBI, v_isBB, v_isBS, v_isST, v_isSI, v_isSB, v_isSS, v_isN, x_rev, x_join, x_fmt, x_fstr, x_zipS, y_rev, y_join1, y_join2, y_fmt, y_fstr, y_rtS, y_zipS1, y_zipS2, v_revL, x_callF, y_callF, List.getElem?_cons_zero, List.getElem?_cons_succ, List.set_cons_zero, List.set_cons_succ, decide_true, decide_false, Int.reduceEq, Int.reduceLT, Int.reduceLE, decide_eq_true_eq, Bool.not_true, Bool.not_false, if_true, if_false, Bool.false_eq_true, b__law_kind, e1, c, e2]
  | succ d ih =>
    intro deep room s hde hr h hk
    have hT : TK (d + 1) = 1100 + 9 * TK d := rfl
    have hT0 := TK_ge d
    rw [show n0 + (d + 1) + 4 = (n0 + d + 4) + 1 by omega, run__law_kind, r__law_kind]
    obtain ⟨w, s1, e1, p1, q1, k1, o1⟩ := pick_run (G := G) (n := n0 + d + 3) s h (by omega) 11 (by decide) (by decide) []
    by_cases hc : deep < 2
    · obtain ⟨k, s2, e2, w2, z2, k2, o2⟩ := leaf_ok (G := G) (n := n0 + d + 2) hh hl s1 o1 (by omega)
      exact ⟨k, s2, by simp -implicitDefEqProofs only [x_var, y_var, x_con, x_glob, x_bin, x_neg, x_cmp, x_chain, x_isN, x_notN, x_and, x_and1, x_or, x_or1, x_not, x_ife, x_call, x_callP, x_bi, x_isi, x_listRg, x_ix, x_sl, x_tup, x_lst, x_comp, x_compIf, x_box, x_pop, x_popAt, x_append, x_nil, x_cons, x_seq, x_rng1, x_rng2, x_zip, x_asg, x_setix, x_aug, x_ex, x_if, x_for, x_while, x_ret, x_brk, x_cont, x_bnil, x_bcons, y_rt1, y_rtB, y_bin1, y_bin2, y_cmp1, y_cmp2, y_neg, y_isN, y_notN, y_andT, y_andF, y_orT, y_orF, y_not, y_ifT, y_ifF, y_chain1, y_chain2, y_chainT, y_chainF, y_chain3, y_cons1, y_cons2, y_call, y_callP, y_bi, y_isi, y_ix1, y_ix2, y_tup0, y_tup1, y_tup2, y_tup3, y_tup4, y_lst0, y_lst1, y_lst2, y_lst3, y_lc, y_box, y_pop, y_popAt1, y_popAt2, y_append1, y_append2, y_rtL, y_seq, y_seqT, y_seqL, y_rng21, y_zip1, y_zip2, y_zipT, y_zipL, y_rtE, y_asg, y_set1, y_set2, y_set3, y_aug, y_augA, y_augS, y_ex, y_ifST, y_ifSF, y_for, y_ret, y_nx, y_rt, y_bk, y_ct, y_fnR, y_fnN, y_nm, y_tp, y_tgn, y_tgc, y_tgk, v_add, v_sub, v_eqI, v_eqS, v_eqB, v_neI, v_neS, v_neB, v_lt, v_le, v_gt, v_ge, v_lenT, v_lenL, v_lenF, v_tupL, v_tupT, v_listL, v_listT, v_intI, v_intB, v_max, v_min, v_ixT, v_ixL, v_at0, v_at1, v_at2, y_lst4, y_lst5, y_lst6, y_lst7, y_tup5, y_tup6, y_sl1, y_sl1i, y_sl2, y_sl2i, y_sl3, v_slF, v_slL, v_slT, w_0, w_1, y_part, y_sl1v, y_sl1b, y_sl1n, y_sl2v, y_sl2b, y_sl2n, v_isTT, v_isTI, v_isTB, v_isTS, v_isIT, v_isII, v_isIB, v_isIS, v_isBT, v_isBI, v_isBB, v_isBS, v_isST, v_isSI, v_isSB, v_isSS, v_isN, x_rev, x_join, x_fmt, x_fstr, x_zipS, y_rev, y_join1, y_join2, y_fmt, y_fstr, y_rtS, y_zipS1, y_zipS2, v_revL, x_callF, y_callF, List.getElem?_cons_zero, List.getElem?_cons_succ, List.set_cons_zero, List.set_cons_succ, decide_true, decide_false, Int.reduceEq, Int.reduceLT, Int.reduceLE, decide_eq_true_eq, Bool.not_true, Bool.not_false, if_true, if_false, Bool.false_eq_true, b__law_kind, e1, hc, e2], w2, by omega, by omega, o2⟩
    by_cases hc2 : room < 2
    · obtain ⟨k, s2, e2, w2, z2, k2, o2⟩ := leaf_ok (G := G) (n := n0 + d + 2) hh hl s1 o1 (by omega)
      have c : ((room : Int) < 2) = True := by simp only [eq_iff_iff, iff_true]; omega
      exact ⟨k, s2, by simp -implicitDefEqProofs only [x_var, y_var, x_con, x_glob, x_bin, x_neg, x_cmp, x_chain, x_isN, x_notN, x_and, x_and1, x_or, x_or1, x_not, x_ife, x_call, x_callP, x_bi, x_isi, x_listRg, x_ix, x_sl, x_tup, x_lst, x_comp, x_compIf, x_box, x_pop, x_popAt, x_append, x_nil, x_cons, x_seq, x_rng1, x_rng2, x_zip, x_asg, x_setix, x_aug, x_ex, x_if, x_for, x_while, x_ret, x_brk, x_cont, x_bnil, x_bcons, y_rt1, y_rtB, y_bin1, y_bin2, y_cmp1, y_cmp2, y_neg, y_isN, y_notN, y_andT, y_andF, y_orT, y_orF, y_not, y_ifT, y_ifF, y_chain1, y_chain2, y_chainT, y_chainF, y_chain3, y_cons1, y_cons2, y_call, y_callP, y_bi, y_isi, y_ix1, y_ix2, y_tup0, y_tup1, y_tup2, y_tup3, y_tup4, y_lst0, y_lst1, y_lst2, y_lst3, y_lc, y_box, y_pop, y_popAt1, y_popAt2, y_append1, y_append2, y_rtL, y_seq, y_seqT, y_seqL, y_rng21, y_zip1, y_zip2, y_zipT, y_zipL, y_rtE, y_asg, y_set1, y_set2, y_set3, y_aug, y_augA, y_augS, y_ex, y_ifST, y_ifSF, y_for, y_ret, y_nx, y_rt, y_bk, y_ct, y_fnR, y_fnN, y_nm, y_tp, y_tgn, y_tgc, y_tgk, v_add, v_sub, v_eqI, v_eqS, v_eqB, v_neI, v_neS, v_neB, v_lt, v_le, v_gt, v_ge, v_lenT, v_lenL, v_lenF, v_tupL, v_tupT, v_listL, v_listT, v_intI, v_intB, v_max, v_min, v_ixT, v_ixL, v_at0, v_at1, v_at2, y_lst4, y_lst5, y_lst6, y_lst7, y_tup5, y_tup6, y_sl1, y_sl1i, y_sl2, y_sl2i, y_sl3, v_slF, v_slL, v_slT, w_0, w_1, y_part, y_sl1v, y_sl1b, y_sl1n, y_sl2v, y_sl2b, y_sl2n, v_isTT, v_isTI, v_isTB, v_isTS, v_isIT, v_isII, v_isIB, v_isIS, v_isBT, v_isBI, v_isBB, v_isBS, v_isST, v_isSI, v_isSB, v_isSS, v_isN, x_rev, x_join, x_fmt, x_fstr, x_zipS, y_rev, y_join1, y_join2, y_fmt, y_fstr, y_rtS, y_zipS1, y_zipS2, v_revL, x_callF, y_callF, List.getElem?_cons_zero, List.getElem?_cons_succ, List.set_cons_zero, List.set_cons_succ, decide_true, decide_false, Int.reduceEq, Int.reduceLT, Int.reduceLE, decide_eq_true_eq, Bool.not_true, Bool.not_false, if_true, if_false, Bool.false_eq_true, b__law_kind, e1, hc, c, e2], w2, by omega, by omega, o2⟩
    have c2 : ((room : Int) < 2) = False := by simp only [eq_iff_iff, iff_false]; omega
    by_cases w0 : w = 0
    · obtain ⟨k, s2, e2, w2, z2, k2, o2⟩ := leaf_ok (G := G) (n := n0 + d + 2) hh hl s1 o1 (by omega)
      subst w0
      exact ⟨k, s2, by simp -implicitDefEqProofs only [x_var, y_var, x_con, x_glob, x_bin, x_neg, x_cmp, x_chain, x_isN, x_notN, x_and, x_and1, x_or, x_or1, x_not, x_ife, x_call, x_callP, x_bi, x_isi, x_listRg, x_ix, x_sl, x_tup, x_lst, x_comp, x_compIf, x_box, x_pop, x_popAt, x_append, x_nil, x_cons, x_seq, x_rng1, x_rng2, x_zip, x_asg, x_setix, x_aug, x_ex, x_if, x_for, x_while, x_ret, x_brk, x_cont, x_bnil, x_bcons, y_rt1, y_rtB, y_bin1, y_bin2, y_cmp1, y_cmp2, y_neg, y_isN, y_notN, y_andT, y_andF, y_orT, y_orF, y_not, y_ifT, y_ifF, y_chain1, y_chain2, y_chainT, y_chainF, y_chain3, y_cons1, y_cons2, y_call, y_callP, y_bi, y_isi, y_ix1, y_ix2, y_tup0, y_tup1, y_tup2, y_tup3, y_tup4, y_lst0, y_lst1, y_lst2, y_lst3, y_lc, y_box, y_pop, y_popAt1, y_popAt2, y_append1, y_append2, y_rtL, y_seq, y_seqT, y_seqL, y_rng21, y_zip1, y_zip2, y_zipT, y_zipL, y_rtE, y_asg, y_set1, y_set2, y_set3, y_aug, y_augA, y_augS, y_ex, y_ifST, y_ifSF, y_for, y_ret, y_nx, y_rt, y_bk, y_ct, y_fnR, y_fnN, y_nm, y_tp, y_tgn, y_tgc, y_tgk, v_add, v_sub, v_eqI, v_eqS, v_eqB, v_neI, v_neS, v_neB, v_lt, v_le, v_gt, v_ge, v_lenT, v_lenL, v_lenF, v_tupL, v_tupT, v_listL, v_listT, v_intI, v_intB, v_max, v_min, v_ixT, v_ixL, v_at0, v_at1, v_at2, y_lst4, y_lst5, y_lst6, y_lst7, y_tup5, y_tup6, y_sl1, y_sl1i, y_sl2, y_sl2i, y_sl3, v_slF, v_slL, v_slT, w_0, w_1, y_part, y_sl1v, y_sl1b, y_sl1n, y_sl2v, y_sl2b, y_sl2n, v_isTT, v_isTI, v_isTB, v_isTS, v_isIT, v_isII, v_isIB, v_isIS, v_isBT, v_isBI, v_isBB, v_isBS, v_isST, v_isSI, v_isSB, v_isSS, v_isN, x_rev, x_join, x_fmt, x_fstr, x_zipS, y_rev, y_join1, y_join2, y_fmt, y_fstr, y_rtS, y_zipS1, y_zipS2, v_revL, x_callF, y_callF, List.getElem?_cons_zero, List.getElem?_cons_succ, List.set_cons_zero, List.set_cons_succ, decide_true, decide_false, Int.reduceEq, Int.reduceLT, Int.reduceLE, decide_eq_true_eq, Bool.not_true, Bool.not_false, if_true, if_false, Bool.false_eq_true, b__law_kind, e1, hc, c2, e2], w2, by omega, by omega, o2⟩
    have r1 : ∀ m : M, bopD m .sub (.int (room : Int)) (.int 1) = some (.int ((room - 1 : Nat) : Int)) := fun m => by rw [v_sub]; congr 2; omega
    -- many kinds, with a room each
    by_cases w5 : w < 5
    · obtain ⟨v, lt, hlt, hv⟩ : ∃ (v : Bool) (lt : Nat), (lt = if v then 1 else 0) ∧ (v = decide (2 < w)) := ⟨decide (2 < w), _, rfl, rfl⟩
      obtain ⟨a, s2, e2, p2, q2, k2, o2⟩ := pick_run (G := G) (n := n0 + d + 3) s1 o1 (by omega) 4 (by decide) (by decide) []
      obtain ⟨bd, ebd, hbd⟩ := at_any (P := fun x => ∃ i : Int, x = .int i ∧ 0 < i ∧ i ≤ 9 - lt) (l := [.int 4, .int 4, .int 4, .int (9 - (lt : Int))]) (by
        have : lt ≤ 1 := by rw [hlt]; cases v <;> simp
        intro x hx
        simp only [List.mem_cons, List.not_mem_nil, or_false] at hx
        rcases hx with rfl | rfl | rfl | rfl
        · exact ⟨4, rfl, by decide, by omega⟩
        · exact ⟨4, rfl, by decide, by omega⟩
        · exact ⟨4, rfl, by decide, by omega⟩
        · exact ⟨_, rfl, by omega, by omega⟩) p2 q2
      obtain ⟨bd, rfl, hb0, hb1⟩ := hbd
      obtain ⟨b, s3, e3, p3, q3, k3, o3⟩ := pick_run (G := G) (n := n0 + d + 3) s2 o2 (by omega) bd hb0 (by omega) []
      obtain ⟨c, hcv, hcl, hcr⟩ : ∃ c : Nat, (if ((room - 1 : Nat) : Int) < (lt : Int) + b then ((room - 1 : Nat) : Int) else (lt : Int) + b) = (c : Int) ∧ c ≤ 8 ∧ c ≤ room - 1 := by
        refine ⟨(if ((room - 1 : Nat) : Int) < (lt : Int) + b then ((room - 1 : Nat) : Int) else (lt : Int) + b).toNat, ?_, ?_, ?_⟩ <;> split <;> omega
      obtain ⟨ss, s4, e4, hsl, hss, k4, o4⟩ := names_ok (G := G) (n := n0 + d + 1) c (by omega) s3 o3 (by omega)
      have hll : (ss.map D.str).length ≤ lim := lim10 (by rw [List.length_map]; omega)
      obtain ⟨vs, m', hcm, ps, rfl, hpl, hps, s5, rfl, k5, o5⟩ := comp_ok (t := .nm 11) (te := evE (run tab G (n0 + d + 4)) G (.tup (.cons (.var 11) (.cons (.call 8 (.cons (.var 0) (.cons (.var 1) (.cons (.var 2) (.cons (.bin .sub (.var 3) (.con (.int 1))) (.cons (.bin .fdiv (.bin .sub (.var 4) (.con (.int 1))) (.bi .len (.cons (.var 9) .nil))) .nil)))))) .nil))))
        (fun i acc m => ∃ ps : List (Str × Kd), acc = ps.map pk ∧ ps.length = i ∧ (∀ p ∈ ps, (nmOk p.1 = true ∧ wf p.2 = true) ∧ kz p.2 ≤ (room - 1) / c) ∧ ∃ s5 : Dk, m = mem s5 [] ∧ s5.k ≤ s4.k + i * TK d ∧ s5.Ok)
        (ss.map .str) [some (.ref 1), some (.lst (hd.map hdD)), some (.tup (hs.map .str)), some (.int deep), some (.int room), some (.int w), none, some (.int (lt : Int)), some (.int ((lt : Int) + b)), some (.lst (ss.map .str)), none, none, none] (mem s4 []) ⟨[], rfl, rfl, by simp, s4, rfl, by omega, o4⟩ (by
          rintro i hi acc m ⟨ps, rfl, hpl, hps, s5, rfl, k5, o5⟩
          rw [List.length_map] at hi
          have him : i * TK d ≤ 7 * TK d := Nat.mul_le_mul_right _ (by omega)
          have him2 : (i + 1) * TK d = i * TK d + TK d := Nat.succ_mul _ _
          have hc0 : 0 < c := by omega
          have hq : ((room - 1 : Nat) : Int) / ((ss.map D.str).length : Int) = (((room - 1) / c : Nat) : Int) := by rw [List.length_map, hsl]; simp
          have hdv : divOk ((ss.map D.str).length : Int) = true := by
            rw [List.length_map]
            have h1 : (0 : Int) < (ss.length : Int) := by omega
            simp only [divOk, h1, log_of h1 (show (ss.length : Int) < 2 ^ 64 by omega), decide_true, Bool.and_self]
          have hqr : (room - 1) / c ≤ room := Nat.le_trans (Nat.div_le_self _ _) (by omega)
          have hq1 : 1 ≤ (room - 1) / c := (Nat.le_div_iff_mul_le hc0).mpr (by omega)
          obtain ⟨k, s6, e6, w6, z6, k6, o6⟩ := ih (deep - 1) ((room - 1) / c) s5 (by omega) (by omega) o5 (by omega)
          refine ⟨_, .tup [.str ss[i], toK k], mem s6 [], y_nm, ?_, ps ++ [(ss[i], k)], by simp [pk], by simp [hpl], ?_, s6, rfl, by omega, o6⟩
          · rw [List.getElem_map]
            simp -implicitDefEqProofs only [x_var, y_var, x_con, x_glob, x_bin, x_neg, x_cmp, x_chain, x_isN, x_notN, x_and, x_and1, x_or, x_or1, x_not, x_ife, x_call, x_callP, x_bi, x_isi, x_listRg, x_ix, x_sl, x_tup, x_lst, x_comp, x_compIf, x_box, x_pop, x_popAt, x_append, x_nil, x_cons, x_seq, x_rng1, x_rng2, x_zip, x_asg, x_setix, x_aug, x_ex, x_if, x_for, x_while, x_ret, x_brk, x_cont, x_bnil, x_bcons, y_rt1, y_rtB, y_bin1, y_bin2, y_cmp1, y_cmp2, y_neg, y_isN, y_notN, y_andT, y_andF, y_orT, y_orF, y_not, y_ifT, y_ifF, y_chain1, y_chain2, y_chainT, y_chainF, y_chain3, y_cons1, y_cons2, y_call, y_callP, y_bi, y_isi, y_ix1, y_ix2, y_tup0, y_tup1, y_tup2, y_tup3, y_tup4, y_lst0, y_lst1, y_lst2, y_lst3, y_lc, y_box, y_pop, y_popAt1, y_popAt2, y_append1, y_append2, y_rtL, y_seq, y_seqT, y_seqL, y_rng21, y_zip1, y_zip2, y_zipT, y_zipL, y_rtE, y_asg, y_set1, y_set2, y_set3, y_aug, y_augA, y_augS, y_ex, y_ifST, y_ifSF, y_for, y_ret, y_nx, y_rt, y_bk, y_ct, y_fnR, y_fnN, y_nm, y_tp, y_tgn, y_tgc, y_tgk, v_add, v_sub, v_eqI, v_eqS, v_eqB, v_neI, v_neS, v_neB, v_lt, v_le, v_gt, v_ge, v_lenT, v_lenL, v_lenF, v_tupL, v_tupT, v_listL, v_listT, v_intI, v_intB, v_max, v_min, v_ixT, v_ixL, v_at0, v_at1, v_at2, y_lst4, y_lst5, y_lst6, y_lst7, y_tup5, y_tup6, y_sl1, y_sl1i, y_sl2, y_sl2i, y_sl3, v_slF, v_slL, v_slT, w_0, w_1, y_part, y_sl1v, y_sl1b, y_sl1n, y_sl2v, y_sl2b, y_sl2n, v_isTT, v_isTI, v_isTB, v_isTS, v_isIT, v_isII, v_isIB, v_isIS, v_isBT, v_isBI, v_isBB, v_isBS, v_isST, v_isSI, v_isSB, v_isSS, v_isN, x_rev, x_join, x_fmt, x_fstr, x_zipS, y_rev, y_join1, y_join2, y_fmt, y_fstr, y_rtS, y_zipS1, y_zipS2, v_revL, x_callF, y_callF, List.getElem?_cons_zero, List.getElem?_cons_succ, List.set_cons_zero, List.set_cons_succ, decide_true, decide_false, Int.reduceEq, Int.reduceLT, Int.reduceLE, decide_eq_true_eq, Bool.not_true, Bool.not_false, if_true, if_false, Bool.false_eq_true, r1, v_fdiv hdv, hq, e6]
          · intro p hp
            rcases List.mem_append.mp hp with hp | hp
            · exact hps p hp
            · rw [List.mem_singleton.mp hp]
              exact ⟨⟨hss _ (List.getElem_mem hi), w6⟩, by show kz k ≤ (room - 1) / c; omega⟩)
      rw [List.length_map, hsl] at hpl k5
      have him : c * TK d ≤ 8 * TK d := Nat.mul_le_mul_right _ (by omega)
      have hzz := of_pz (b := (room - 1) / c) (l := ps) fun p hp => (hps p hp).2
      rw [hpl] at hzz
      have hdm : c * ((room - 1) / c) ≤ room - 1 := Nat.mul_div_le _ _
      refine ⟨.rcd v (Ps.of ps), s5, ?_, ?_, ?_, by omega, o5⟩
      · have ix : atD [.str "record", .str "variant"] (lt : Int) = some (.str (wRec v)) := by
          rw [hlt]; cases v
          · exact v_at0
          · exact v_at1
        have li : ∀ m : M, biD m .int [.bl (decide (2 < w))] = some (.int (lt : Int)) := by
          intro m
          rw [← hv, hlt]; cases v <;> rfl
        have mi : ∀ m : M, biD m .min2 [.int ((lt : Int) + b), .int ((room - 1 : Nat) : Int)] = some (.int (c : Int)) := by
          intro m
          show some (D.int (if ((room - 1 : Nat) : Int) < (lt : Int) + b then ((room - 1 : Nat) : Int) else (lt : Int) + b)) = _
          rw [hcv]
        rw [toK, of_psD]
        simp -implicitDefEqProofs only [x_var, y_var, x_con, x_glob, x_bin, x_neg, x_cmp, x_chain, x_isN, x_notN, x_and, x_and1, x_or, x_or1, x_not, x_ife, x_call, x_callP, x_bi, x_isi, x_listRg, x_ix, x_sl, x_tup, x_lst, x_comp, x_compIf, x_box, x_pop, x_popAt, x_append, x_nil, x_cons, x_seq, x_rng1, x_rng2, x_zip, x_asg, x_setix, x_aug, x_ex, x_if, x_for, x_while, x_ret, x_brk, x_cont, x_bnil, x_bcons, y_rt1, y_rtB, y_bin1, y_bin2, y_cmp1, y_cmp2, y_neg, y_isN, y_notN, y_andT, y_andF, y_orT, y_orF, y_not, y_ifT, y_ifF, y_chain1, y_chain2, y_chainT, y_chainF, y_chain3, y_cons1, y_cons2, y_call, y_callP, y_bi, y_isi, y_ix1, y_ix2, y_tup0, y_tup1, y_tup2, y_tup3, y_tup4, y_lst0, y_lst1, y_lst2, y_lst3, y_lc, y_box, y_pop, y_popAt1, y_popAt2, y_append1, y_append2, y_rtL, y_seq, y_seqT, y_seqL, y_rng21, y_zip1, y_zip2, y_zipT, y_zipL, y_rtE, y_asg, y_set1, y_set2, y_set3, y_aug, y_augA, y_augS, y_ex, y_ifST, y_ifSF, y_for, y_ret, y_nx, y_rt, y_bk, y_ct, y_fnR, y_fnN, y_nm, y_tp, y_tgn, y_tgc, y_tgk, v_add, v_sub, v_eqI, v_eqS, v_eqB, v_neI, v_neS, v_neB, v_lt, v_le, v_gt, v_ge, v_lenT, v_lenL, v_lenF, v_tupL, v_tupT, v_listL, v_listT, v_intI, v_intB, v_max, v_min, v_ixT, v_ixL, v_at0, v_at1, v_at2, y_lst4, y_lst5, y_lst6, y_lst7, y_tup5, y_tup6, y_sl1, y_sl1i, y_sl2, y_sl2i, y_sl3, v_slF, v_slL, v_slT, w_0, w_1, y_part, y_sl1v, y_sl1b, y_sl1n, y_sl2v, y_sl2b, y_sl2n, v_isTT, v_isTI, v_isTB, v_isTS, v_isIT, v_isII, v_isIB, v_isIS, v_isBT, v_isBI, v_isBB, v_isBS, v_isST, v_isSI, v_isSB, v_isSS, v_isN, x_rev, x_join, x_fmt, x_fstr, x_zipS, y_rev, y_join1, y_join2, y_fmt, y_fstr, y_rtS, y_zipS1, y_zipS2, v_revL, x_callF, y_callF, List.getElem?_cons_zero, List.getElem?_cons_succ, List.set_cons_zero, List.set_cons_succ, decide_true, decide_false, Int.reduceEq, Int.reduceLT, Int.reduceLE, decide_eq_true_eq, Bool.not_true, Bool.not_false, if_true, if_false, Bool.false_eq_true, b__law_kind, e1, hc, c2, w0, w5, li, e2, ebd, e3, r1, mi, e4, y_comp hll, hcm, ix]
      · simp only [wf]; exact of_wfp fun p hp => (hps p hp).1
      · simp only [kz]; omega
    by_cases w6 : w = 5
    · subst w6
      obtain ⟨a, s2, e2, p2, q2, k2, o2⟩ := pick_run (G := G) (n := n0 + d + 3) s1 o1 (by omega) 2 (by decide) (by decide) []
      obtain ⟨bd, ebd, hbd⟩ := at_any (P := fun x => ∃ i : Int, x = .int i ∧ 0 < i ∧ i ≤ 16) (l := [.int 4, .int 16]) (by
        intro x hx
        simp only [List.mem_cons, List.not_mem_nil, or_false] at hx
        rcases hx with rfl | rfl
        · exact ⟨4, rfl, by decide, by omega⟩
        · exact ⟨16, rfl, by decide, by omega⟩) p2 q2
      obtain ⟨bd, rfl, hb0, hb1⟩ := hbd
      obtain ⟨b, s3, e3, p3, q3, k3, o3⟩ := pick_run (G := G) (n := n0 + d + 3) s2 o2 (by omega) bd hb0 (by omega) []
      obtain ⟨c, hcc⟩ : ∃ c : Nat, 1 + b = (c : Int) := Int.eq_ofNat_of_zero_le (by omega)
      obtain ⟨k, s4, e4, w4, z4, k4, o4⟩ := ih (deep - 1) (room - 1) s3 (by omega) (by omega) o3 (by omega)
      refine ⟨.row c k, s4, ?_, by simp only [wf, w4, Bool.and_true, decide_eq_true_eq]; omega, by simp only [kz]; omega, by omega, o4⟩
      rw [toK]
      simp -implicitDefEqProofs only [x_var, y_var, x_con, x_glob, x_bin, x_neg, x_cmp, x_chain, x_isN, x_notN, x_and, x_and1, x_or, x_or1, x_not, x_ife, x_call, x_callP, x_bi, x_isi, x_listRg, x_ix, x_sl, x_tup, x_lst, x_comp, x_compIf, x_box, x_pop, x_popAt, x_append, x_nil, x_cons, x_seq, x_rng1, x_rng2, x_zip, x_asg, x_setix, x_aug, x_ex, x_if, x_for, x_while, x_ret, x_brk, x_cont, x_bnil, x_bcons, y_rt1, y_rtB, y_bin1, y_bin2, y_cmp1, y_cmp2, y_neg, y_isN, y_notN, y_andT, y_andF, y_orT, y_orF, y_not, y_ifT, y_ifF, y_chain1, y_chain2, y_chainT, y_chainF, y_chain3, y_cons1, y_cons2, y_call, y_callP, y_bi, y_isi, y_ix1, y_ix2, y_tup0, y_tup1, y_tup2, y_tup3, y_tup4, y_lst0, y_lst1, y_lst2, y_lst3, y_lc, y_box, y_pop, y_popAt1, y_popAt2, y_append1, y_append2, y_rtL, y_seq, y_seqT, y_seqL, y_rng21, y_zip1, y_zip2, y_zipT, y_zipL, y_rtE, y_asg, y_set1, y_set2, y_set3, y_aug, y_augA, y_augS, y_ex, y_ifST, y_ifSF, y_for, y_ret, y_nx, y_rt, y_bk, y_ct, y_fnR, y_fnN, y_nm, y_tp, y_tgn, y_tgc, y_tgk, v_add, v_sub, v_eqI, v_eqS, v_eqB, v_neI, v_neS, v_neB, v_lt, v_le, v_gt, v_ge, v_lenT, v_lenL, v_lenF, v_tupL, v_tupT, v_listL, v_listT, v_intI, v_intB, v_max, v_min, v_ixT, v_ixL, v_at0, v_at1, v_at2, y_lst4, y_lst5, y_lst6, y_lst7, y_tup5, y_tup6, y_sl1, y_sl1i, y_sl2, y_sl2i, y_sl3, v_slF, v_slL, v_slT, w_0, w_1, y_part, y_sl1v, y_sl1b, y_sl1n, y_sl2v, y_sl2b, y_sl2n, v_isTT, v_isTI, v_isTB, v_isTS, v_isIT, v_isII, v_isIB, v_isIS, v_isBT, v_isBI, v_isBB, v_isBS, v_isST, v_isSI, v_isSB, v_isSS, v_isN, x_rev, x_join, x_fmt, x_fstr, x_zipS, y_rev, y_join1, y_join2, y_fmt, y_fstr, y_rtS, y_zipS1, y_zipS2, v_revL, x_callF, y_callF, List.getElem?_cons_zero, List.getElem?_cons_succ, List.set_cons_zero, List.set_cons_succ, decide_true, decide_false, Int.reduceEq, Int.reduceLT, Int.reduceLE, decide_eq_true_eq, Bool.not_true, Bool.not_false, if_true, if_false, Bool.false_eq_true, b__law_kind, e1, hc, c2, e2, ebd, e3, hcc, r1, e4]
    by_cases w8 : w < 8
    · obtain ⟨k, s4, e4, w4, z4, k4, o4⟩ := ih (deep - 1) (room - 1) s1 (by omega) (by omega) o1 (by omega)
      have m2 : ∀ m : M, bopD m .mod (.int w) (.int 2) = some (.int (w % 2)) := fun m => v_mod (by decide)
      obtain ⟨b, eb⟩ : ∃ b, atD [.str "maybe", .str "box"] (w % 2) = some (.str (wWrap b)) := by
        have hw : w % 2 = 0 ∨ w % 2 = 1 := by omega
        rcases hw with e | e
        · exact ⟨false, by rw [e]; exact v_at0⟩
        · exact ⟨true, by rw [e]; exact v_at1⟩
      refine ⟨.wrap b k, s4, ?_, w4, by simp only [kz]; omega, by omega, o4⟩
      rw [toK]
      simp -implicitDefEqProofs only [x_var, y_var, x_con, x_glob, x_bin, x_neg, x_cmp, x_chain, x_isN, x_notN, x_and, x_and1, x_or, x_or1, x_not, x_ife, x_call, x_callP, x_bi, x_isi, x_listRg, x_ix, x_sl, x_tup, x_lst, x_comp, x_compIf, x_box, x_pop, x_popAt, x_append, x_nil, x_cons, x_seq, x_rng1, x_rng2, x_zip, x_asg, x_setix, x_aug, x_ex, x_if, x_for, x_while, x_ret, x_brk, x_cont, x_bnil, x_bcons, y_rt1, y_rtB, y_bin1, y_bin2, y_cmp1, y_cmp2, y_neg, y_isN, y_notN, y_andT, y_andF, y_orT, y_orF, y_not, y_ifT, y_ifF, y_chain1, y_chain2, y_chainT, y_chainF, y_chain3, y_cons1, y_cons2, y_call, y_callP, y_bi, y_isi, y_ix1, y_ix2, y_tup0, y_tup1, y_tup2, y_tup3, y_tup4, y_lst0, y_lst1, y_lst2, y_lst3, y_lc, y_box, y_pop, y_popAt1, y_popAt2, y_append1, y_append2, y_rtL, y_seq, y_seqT, y_seqL, y_rng21, y_zip1, y_zip2, y_zipT, y_zipL, y_rtE, y_asg, y_set1, y_set2, y_set3, y_aug, y_augA, y_augS, y_ex, y_ifST, y_ifSF, y_for, y_ret, y_nx, y_rt, y_bk, y_ct, y_fnR, y_fnN, y_nm, y_tp, y_tgn, y_tgc, y_tgk, v_add, v_sub, v_eqI, v_eqS, v_eqB, v_neI, v_neS, v_neB, v_lt, v_le, v_gt, v_ge, v_lenT, v_lenL, v_lenF, v_tupL, v_tupT, v_listL, v_listT, v_intI, v_intB, v_max, v_min, v_ixT, v_ixL, v_at0, v_at1, v_at2, y_lst4, y_lst5, y_lst6, y_lst7, y_tup5, y_tup6, y_sl1, y_sl1i, y_sl2, y_sl2i, y_sl3, v_slF, v_slL, v_slT, w_0, w_1, y_part, y_sl1v, y_sl1b, y_sl1n, y_sl2v, y_sl2b, y_sl2n, v_isTT, v_isTI, v_isTB, v_isTS, v_isIT, v_isII, v_isIB, v_isIS, v_isBT, v_isBI, v_isBB, v_isBS, v_isST, v_isSI, v_isSB, v_isSS, v_isN, x_rev, x_join, x_fmt, x_fstr, x_zipS, y_rev, y_join1, y_join2, y_fmt, y_fstr, y_rtS, y_zipS1, y_zipS2, v_revL, x_callF, y_callF, List.getElem?_cons_zero, List.getElem?_cons_succ, List.set_cons_zero, List.set_cons_succ, decide_true, decide_false, Int.reduceEq, Int.reduceLT, Int.reduceLE, decide_eq_true_eq, Bool.not_true, Bool.not_false, if_true, if_false, Bool.false_eq_true, b__law_kind, e1, hc, c2, w0, w5, w6, w8, m2, eb, r1, e4]
    · have hpos : 0 < hd.length := List.length_pos_iff.mpr hd0
      obtain ⟨a, s2, e2, p2, q2, k2, o2⟩ := pick_run (G := G) (n := n0 + d + 3) s1 o1 (by omega) ((hd.map hdD).length : Int) (by rw [List.length_map]; omega) (by rw [List.length_map]; omega) []
      obtain ⟨x, ex, nm, c, rfl, hnm, hc3⟩ := at_any (P := fun x => ∃ (nm : Str) (c : Nat), x = .tup [.str nm, .int (c : Int)] ∧ nmOk nm = true ∧ c ≤ 3) (l := hd.map hdD) (by
        intro x hx
        obtain ⟨p, hp, rfl⟩ := List.mem_map.mp hx
        exact ⟨p.1, p.2, rfl, (hdn p hp).1, (hdn p hp).2⟩) p2 q2
      have eqh : ∀ m : M, cmpD m .eq (.lst (hd.map hdD)) (.lst []) = some false := fun m => eq_heads hd0 fun p hp => (hdn p hp).1
      by_cases hcr : room - 1 < c
      · obtain ⟨k, s3, e3, w3, z3, k3, o3⟩ := leaf_ok (G := G) (n := n0 + d + 2) hh hl s2 o2 (by omega)
        have cc : (((room - 1 : Nat) : Int) < (c : Int)) = True := by simp only [eq_iff_iff, iff_true]; omega
        exact ⟨k, s3, by simp -implicitDefEqProofs only [x_var, y_var, x_con, x_glob, x_bin, x_neg, x_cmp, x_chain, x_isN, x_notN, x_and, x_and1, x_or, x_or1, x_not, x_ife, x_call, x_callP, x_bi, x_isi, x_listRg, x_ix, x_sl, x_tup, x_lst, x_comp, x_compIf, x_box, x_pop, x_popAt, x_append, x_nil, x_cons, x_seq, x_rng1, x_rng2, x_zip, x_asg, x_setix, x_aug, x_ex, x_if, x_for, x_while, x_ret, x_brk, x_cont, x_bnil, x_bcons, y_rt1, y_rtB, y_bin1, y_bin2, y_cmp1, y_cmp2, y_neg, y_isN, y_notN, y_andT, y_andF, y_orT, y_orF, y_not, y_ifT, y_ifF, y_chain1, y_chain2, y_chainT, y_chainF, y_chain3, y_cons1, y_cons2, y_call, y_callP, y_bi, y_isi, y_ix1, y_ix2, y_tup0, y_tup1, y_tup2, y_tup3, y_tup4, y_lst0, y_lst1, y_lst2, y_lst3, y_lc, y_box, y_pop, y_popAt1, y_popAt2, y_append1, y_append2, y_rtL, y_seq, y_seqT, y_seqL, y_rng21, y_zip1, y_zip2, y_zipT, y_zipL, y_rtE, y_asg, y_set1, y_set2, y_set3, y_aug, y_augA, y_augS, y_ex, y_ifST, y_ifSF, y_for, y_ret, y_nx, y_rt, y_bk, y_ct, y_fnR, y_fnN, y_nm, y_tp, y_tgn, y_tgc, y_tgk, v_add, v_sub, v_eqI, v_eqS, v_eqB, v_neI, v_neS, v_neB, v_lt, v_le, v_gt, v_ge, v_lenT, v_lenL, v_lenF, v_tupL, v_tupT, v_listL, v_listT, v_intI, v_intB, v_max, v_min, v_ixT, v_ixL, v_at0, v_at1, v_at2, y_lst4, y_lst5, y_lst6, y_lst7, y_tup5, y_tup6, y_sl1, y_sl1i, y_sl2, y_sl2i, y_sl3, v_slF, v_slL, v_slT, w_0, w_1, y_part, y_sl1v, y_sl1b, y_sl1n, y_sl2v, y_sl2b, y_sl2n, v_isTT, v_isTI, v_isTB, v_isTS, v_isIT, v_isII, v_isIB, v_isIS, v_isBT, v_isBI, v_isBB, v_isBS, v_isST, v_isSI, v_isSB, v_isSS, v_isN, x_rev, x_join, x_fmt, x_fstr, x_zipS, y_rev, y_join1, y_join2, y_fmt, y_fstr, y_rtS, y_zipS1, y_zipS2, v_revL, x_callF, y_callF, List.getElem?_cons_zero, List.getElem?_cons_succ, List.set_cons_zero, List.set_cons_succ, decide_true, decide_false, Int.reduceEq, Int.reduceLT, Int.reduceLE, decide_eq_true_eq, Bool.not_true, Bool.not_false, if_true, if_false, Bool.false_eq_true, b__law_kind, e1, hc, c2, w0, w5, w6, w8, eqh, e2, ex, r1, cc, e3], w3, by omega, by omega, o3⟩
      · have cc : (((room - 1 : Nat) : Int) < (c : Int)) = False := by simp only [eq_iff_iff, iff_false]; omega
        have hll : (rangeD 0 c).length ≤ lim := by rw [rangeD_len]; exact lim10 (by omega)
        obtain ⟨vs, m', hcm, ps, rfl, hpl, hps, s5, rfl, k5, o5⟩ := comp_ok (t := .nm 12) (te := evE (run tab G (n0 + d + 4)) G (.call 8 (.cons (.var 0) (.cons (.var 1) (.cons (.var 2) (.cons (.bin .sub (.var 3) (.con (.int 1))) (.cons (.bin .fdiv (.bin .sub (.var 4) (.con (.int 1))) (.var 8)) .nil)))))))
          (fun i acc m => ∃ ps : List Kd, acc = ps.map toK ∧ ps.length = i ∧ (∀ p ∈ ps, wf p = true ∧ kz p ≤ (room - 1) / c) ∧ ∃ s5 : Dk, m = mem s5 [] ∧ s5.k ≤ s2.k + i * TK d ∧ s5.Ok)
          (rangeD 0 c) [some (.ref 1), some (.lst (hd.map hdD)), some (.tup (hs.map .str)), some (.int deep), some (.int room), some (.int w), none, none, some (.int (c : Int)), none, none, some (.str nm), none] (mem s2 []) ⟨[], rfl, rfl, by simp, s2, rfl, by omega, o2⟩ (by
            rintro i hi acc m ⟨ps, rfl, hpl, hps, s5, rfl, k5, o5⟩
            rw [rangeD_len] at hi
            have him : i * TK d ≤ 7 * TK d := Nat.mul_le_mul_right _ (by omega)
            have him2 : (i + 1) * TK d = i * TK d + TK d := Nat.succ_mul _ _
            have hc0 : 0 < c := by omega
            have hq : ((room - 1 : Nat) : Int) / (c : Int) = (((room - 1) / c : Nat) : Int) := by simp
            have hdv : divOk (c : Int) = true := by
              have h1 : (0 : Int) < (c : Int) := by omega
              simp only [divOk, h1, log_of h1 (show (c : Int) < 2 ^ 64 by omega), decide_true, Bool.and_self]
            have hqr : (room - 1) / c ≤ room := Nat.le_trans (Nat.div_le_self _ _) (by omega)
            have hq1 : 1 ≤ (room - 1) / c := (Nat.le_div_iff_mul_le hc0).mpr (by omega)
            obtain ⟨k, s6, e6, w6, z6, k6, o6⟩ := ih (deep - 1) ((room - 1) / c) s5 (by omega) (by omega) o5 (by omega)
            refine ⟨_, toK k, mem s6 [], y_nm, ?_, ps ++ [k], by simp, by simp [hpl], ?_, s6, rfl, by omega, o6⟩
            · simp -implicitDefEqProofs only [x_var, y_var, x_con, x_glob, x_bin, x_neg, x_cmp, x_chain, x_isN, x_notN, x_and, x_and1, x_or, x_or1, x_not, x_ife, x_call, x_callP, x_bi, x_isi, x_listRg, x_ix, x_sl, x_tup, x_lst, x_comp, x_compIf, x_box, x_pop, x_popAt, x_append, x_nil, x_cons, x_seq, x_rng1, x_rng2, x_zip, x_asg, x_setix, x_aug, x_ex, x_if, x_for, x_while, x_ret, x_brk, x_cont, x_bnil, x_bcons, y_rt1, y_rtB, y_bin1, y_bin2, y_cmp1, y_cmp2, y_neg, y_isN, y_notN, y_andT, y_andF, y_orT, y_orF, y_not, y_ifT, y_ifF, y_chain1, y_chain2, y_chainT, y_chainF, y_chain3, y_cons1, y_cons2, y_call, y_callP, y_bi, y_isi, y_ix1, y_ix2, y_tup0, y_tup1, y_tup2, y_tup3, y_tup4, y_lst0, y_lst1, y_lst2, y_lst3, y_lc, y_box, y_pop, y_popAt1, y_popAt2, y_append1, y_append2, y_rtL, y_seq, y_seqT, y_seqL, y_rng21, y_zip1, y_zip2, y_zipT, y_zipL, y_rtE, y_asg, y_set1, y_set2, y_set3, y_aug, y_augA, y_augS, y_ex, y_ifST, y_ifSF, y_for, y_ret, y_nx, y_rt, y_bk, y_ct, y_fnR, y_fnN, y_nm, y_tp, y_tgn, y_tgc, y_tgk, v_add, v_sub, v_eqI, v_eqS, v_eqB, v_neI, v_neS, v_neB, v_lt, v_le, v_gt, v_ge, v_lenT, v_lenL, v_lenF, v_tupL, v_tupT, v_listL, v_listT, v_intI, v_intB, v_max, v_min, v_ixT, v_ixL, v_at0, v_at1, v_at2, y_lst4, y_lst5, y_lst6, y_lst7, y_tup5, y_tup6, y_sl1, y_sl1i, y_sl2, y_sl2i, y_sl3, v_slF, v_slL, v_slT, w_0, w_1, y_part, y_sl1v, y_sl1b, y_sl1n, y_sl2v, y_sl2b, y_sl2n, v_isTT, v_isTI, v_isTB, v_isTS, v_isIT, v_isII, v_isIB, v_isIS, v_isBT, v_isBI, v_isBB, v_isBS, v_isST, v_isSI, v_isSB, v_isSS, v_isN, x_rev, x_join, x_fmt, x_fstr, x_zipS, y_rev, y_join1, y_join2, y_fmt, y_fstr, y_rtS, y_zipS1, y_zipS2, v_revL, x_callF, y_callF, List.getElem?_cons_zero, List.getElem?_cons_succ, List.set_cons_zero, List.set_cons_succ, decide_true, decide_false, Int.reduceEq, Int.reduceLT, Int.reduceLE, decide_eq_true_eq, Bool.not_true, Bool.not_false, if_true, if_false, Bool.false_eq_true, r1, v_fdiv hdv, hq, e6]
            · intro p hp
              rcases List.mem_append.mp hp with hp | hp
              · exact hps p hp
              · rw [List.mem_singleton.mp hp]
                exact ⟨w6, by omega⟩)
        rw [rangeD_len] at hpl k5
        have him : c * TK d ≤ 8 * TK d := Nat.mul_le_mul_right _ (by omega)
        have hzz := of_fz (b := (room - 1) / c) (l := ps) fun p hp => (hps p hp).2
        rw [hpl] at hzz
        have hdm : c * ((room - 1) / c) ≤ room - 1 := Nat.mul_div_le _ _
        refine ⟨.use nm (Ks.of ps), s5, ?_, ?_, ?_, by omega, o5⟩
        · have eR : ∀ m : M, kRng1 (some (.int (c : Int), m)) = some (rangeD 0 c, m) := fun m => by rw [y_rng1 (rgOk_of (by omega) (by omega)), Int.toNat_natCast]
          rw [toK, of_ksD]
          simp -implicitDefEqProofs only [x_var, y_var, x_con, x_glob, x_bin, x_neg, x_cmp, x_chain, x_isN, x_notN, x_and, x_and1, x_or, x_or1, x_not, x_ife, x_call, x_callP, x_bi, x_isi, x_listRg, x_ix, x_sl, x_tup, x_lst, x_comp, x_compIf, x_box, x_pop, x_popAt, x_append, x_nil, x_cons, x_seq, x_rng1, x_rng2, x_zip, x_asg, x_setix, x_aug, x_ex, x_if, x_for, x_while, x_ret, x_brk, x_cont, x_bnil, x_bcons, y_rt1, y_rtB, y_bin1, y_bin2, y_cmp1, y_cmp2, y_neg, y_isN, y_notN, y_andT, y_andF, y_orT, y_orF, y_not, y_ifT, y_ifF, y_chain1, y_chain2, y_chainT, y_chainF, y_chain3, y_cons1, y_cons2, y_call, y_callP, y_bi, y_isi, y_ix1, y_ix2, y_tup0, y_tup1, y_tup2, y_tup3, y_tup4, y_lst0, y_lst1, y_lst2, y_lst3, y_lc, y_box, y_pop, y_popAt1, y_popAt2, y_append1, y_append2, y_rtL, y_seq, y_seqT, y_seqL, y_rng21, y_zip1, y_zip2, y_zipT, y_zipL, y_rtE, y_asg, y_set1, y_set2, y_set3, y_aug, y_augA, y_augS, y_ex, y_ifST, y_ifSF, y_for, y_ret, y_nx, y_rt, y_bk, y_ct, y_fnR, y_fnN, y_nm, y_tp, y_tgn, y_tgc, y_tgk, v_add, v_sub, v_eqI, v_eqS, v_eqB, v_neI, v_neS, v_neB, v_lt, v_le, v_gt, v_ge, v_lenT, v_lenL, v_lenF, v_tupL, v_tupT, v_listL, v_listT, v_intI, v_intB, v_max, v_min, v_ixT, v_ixL, v_at0, v_at1, v_at2, y_lst4, y_lst5, y_lst6, y_lst7, y_tup5, y_tup6, y_sl1, y_sl1i, y_sl2, y_sl2i, y_sl3, v_slF, v_slL, v_slT, w_0, w_1, y_part, y_sl1v, y_sl1b, y_sl1n, y_sl2v, y_sl2b, y_sl2n, v_isTT, v_isTI, v_isTB, v_isTS, v_isIT, v_isII, v_isIB, v_isIS, v_isBT, v_isBI, v_isBB, v_isBS, v_isST, v_isSI, v_isSB, v_isSS, v_isN, x_rev, x_join, x_fmt, x_fstr, x_zipS, y_rev, y_join1, y_join2, y_fmt, y_fstr, y_rtS, y_zipS1, y_zipS2, v_revL, x_callF, y_callF, List.getElem?_cons_zero, List.getElem?_cons_succ, List.set_cons_zero, List.set_cons_succ, decide_true, decide_false, Int.reduceEq, Int.reduceLT, Int.reduceLE, decide_eq_true_eq, Bool.not_true, Bool.not_false, if_true, if_false, Bool.false_eq_true, b__law_kind, e1, hc, c2, w0, w5, w6, w8, eqh, e2, ex, r1, cc, eR, y_comp hll, hcm]
        · simp only [wf, hnm, Bool.true_and]; exact of_wfk fun p hp => (hps p hp).1
        · simp only [kz]; omega
end Lw

namespace Lw
open PySem Pv
theorem bTT : (true == true) = true := rfl
theorem bFF : (false == false) = true := rfl
theorem bTF : (true == false) = false := rfl
theorem bFT : (false == true) = false := rfl
abbrev nD (k : Nat) : D := .int (k : Int)
def getP : List Nat → D → Option D
  | [], x => some x
  | k :: r, .tup xs => (xs[k]?).bind (getP r)
  | _ :: _, _ => none
def setP : List Nat → D → D → D
  | [], _, v => v
  | k :: r, .tup xs, v => .tup (xs.set k (setP r (xs.getD k .non) v))
  | _ :: _, x, _ => x
theorem getP_app : ∀ {p q : List Nat} {x y z : D}, getP p x = some y → getP q y = some z → getP (p ++ q) x = some z
  | [], q, x, y, z, h, hq => by
    simp only [getP, Option.some.injEq] at h
    subst h; exact hq
  | k :: p, q, .tup xs, y, z, h, hq => by
    simp only [getP, List.cons_append] at h ⊢
    obtain ⟨w, h1, h2⟩ := Option.bind_eq_some_iff.mp h
    rw [h1, Option.bind_some]
    exact getP_app h2 hq
  | _ :: _, _, .non, _, _, h, _ | _ :: _, _, .bl _, _, _, h, _ | _ :: _, _, .int _, _, _, h, _ | _ :: _, _, .str _, _, _, h, _ | _ :: _, _, .lst _, _, _, h, _ | _ :: _, _, .frz _, _, _, h, _ | _ :: _, _, .ref _, _, _, h, _ => by simp [getP] at h
theorem setP_app : ∀ {p q : List Nat} {x y v : D}, getP p x = some y → setP (p ++ q) x v = setP p x (setP q y v)
  | [], q, x, y, v, h => by
    simp only [getP, Option.some.injEq] at h
    subst h; rfl
  | k :: p, q, .tup xs, y, v, h => by
    simp only [getP] at h
    obtain ⟨w, h1, h2⟩ := Option.bind_eq_some_iff.mp h
    have e : xs.getD k .non = w := by rw [List.getD_eq_getElem?_getD, h1]; rfl
    simp only [List.cons_append, setP, e]
    rw [setP_app h2]
  | _ :: _, _, .non, _, _, h | _ :: _, _, .bl _, _, _, h | _ :: _, _, .int _, _, _, h | _ :: _, _, .str _, _, _, h | _ :: _, _, .lst _, _, _, h | _ :: _, _, .frz _, _, _, h | _ :: _, _, .ref _, _, _, h => by simp [getP] at h
theorem getP_ok : ∀ {p : List Nat} {n : Nat} {x y : D}, okN n x = true → getP p x = some y → okN n y = true ∧ p.length ≤ n
  | [], n, x, y, hx, h => by
    simp only [getP, Option.some.injEq] at h
    subst h
    exact ⟨hx, Nat.zero_le _⟩
  | k :: p, n + 1, .tup xs, y, hx, h => by
    simp only [getP] at h
    obtain ⟨z, h1, h2⟩ := Option.bind_eq_some_iff.mp h
    have hm := List.mem_of_getElem? h1
    have q := getP_ok ((okN_tup.mp hx).2 z hm) h2
    exact ⟨okN_up q.1, by simp only [List.length_cons]; omega⟩
  | _ :: _, 0, .tup _, _, hx, _ => by simp [okN] at hx
  | _ :: _, _, .non, _, _, h | _ :: _, _, .bl _, _, _, h | _ :: _, _, .int _, _, _, h | _ :: _, _, .str _, _, _, h | _ :: _, _, .lst _, _, _, h | _ :: _, _, .frz _, _, _, h | _ :: _, _, .ref _, _, _, h => by simp [getP] at h
theorem okN_path {n : Nat} {p : List Nat} (h : p.length ≤ 1000) : okN (n + 1) (.tup (p.map nD)) = true :=
  okN_tup.mpr ⟨by rw [List.length_map]; exact h, fun x hx => by obtain ⟨k, _, rfl⟩ := List.mem_map.mp hx; cases n <;> rfl⟩
theorem cut_take {xs : List D} {k : Nat} (h : k < xs.length) : cutD xs none (some (k : Int)) = xs.take k := by
  unfold cutD sIx
  have : ¬ ((k : Int) < 0) := by omega
  simp only [this, if_false, Int.toNat_natCast, Nat.min_eq_left (Nat.le_of_lt h), List.drop_zero, Nat.sub_zero]
theorem cut_drop {xs : List D} {k : Nat} (h : k < xs.length) : cutD xs (some ((k : Int) + 1)) none = xs.drop (k + 1) := by
  unfold cutD sIx
  have : ¬ ((k : Int) + 1 < 0) := by omega
  have e : ((k : Int) + 1).toNat = k + 1 := by omega
  simp only [this, if_false, e, Nat.min_eq_left (Nat.succ_le_of_lt h)]
  rw [List.take_of_length_le (by rw [List.length_drop]; omega)]
theorem set_cut {xs : List D} {k : Nat} {r : D} (h : k < xs.length) : xs.take k ++ [r] ++ xs.drop (k + 1) = xs.set k r := by
  rw [List.set_eq_take_append_cons_drop, if_pos h, List.append_assoc]; rfl
theorem put_ok {G : List D} {e : Nat} {v : D} (hv : okN e v = true) {m : M} : ∀ (p : List Nat) (n0 d : Nat) (x y : D), okN d x = true → p.length ≤ 900 → getP p x = some y →
    run tab G (n0 + p.length + 1) 11 [x, .tup (p.map nD), v] m = some (setP p x v, m) ∧ okN (d + e) (setP p x v) = true := by
  intro p
  induction p with
  | nil =>
    intro n0 d x y hx hd h
    refine ⟨?_, okN_le hv (by omega)⟩
    rw [run__law_put, r__law_put]
    simp -implicitDefEqProofs only [x_var, y_var, x_con, x_glob, x_bin, x_neg, x_cmp, x_chain, x_isN, x_notN, x_and, x_and1, x_or, x_or1, x_not, x_ife, x_call, x_callP, x_bi, x_isi, x_listRg, x_ix, x_sl, x_tup, x_lst, x_comp, x_compIf, x_box, x_pop, x_popAt, x_append, x_nil, x_cons, x_seq, x_rng1, x_rng2, x_zip, x_asg, x_setix, x_aug, x_ex, x_if, x_for, x_while, x_ret, x_brk, x_cont, x_bnil, x_bcons, y_rt1, y_rtB, y_bin1, y_bin2, y_cmp1, y_cmp2, y_neg, y_isN, y_notN, y_andT, y_andF, y_orT, y_orF, y_not, y_ifT, y_ifF, y_chain1, y_chain2, y_chainT, y_chainF, y_chain3, y_cons1, y_cons2, y_call, y_callP, y_bi, y_isi, y_ix1, y_ix2, y_tup0, y_tup1, y_tup2, y_tup3, y_tup4, y_lst0, y_lst1, y_lst2, y_lst3, y_lc, y_box, y_pop, y_popAt1, y_popAt2, y_append1, y_append2, y_rtL, y_seq, y_seqT, y_seqL, y_rng21, y_zip1, y_zip2, y_zipT, y_zipL, y_rtE, y_asg, y_set1, y_set2, y_set3, y_aug, y_augA, y_augS, y_ex, y_ifST, y_ifSF, y_for, y_ret, y_nx, y_rt, y_bk, y_ct, y_fnR, y_fnN, y_nm, y_tp, y_tgn, y_tgc, y_tgk, v_add, v_sub, v_eqI, v_eqS, v_eqB, v_neI, v_neS, v_neB, v_lt, v_le, v_gt, v_ge, v_lenT, v_lenL, v_lenF, v_tupL, v_tupT, v_listL, v_listT, v_intI, v_intB, v_max, v_min, v_ixT, v_ixL, v_at0, v_at1, v_at2, y_lst4, y_lst5, y_lst6, y_lst7, y_tup5, y_tup6, y_sl1, y_sl1i, y_sl2, y_sl2i, y_sl3, v_slF, v_slL, v_slT, w_0, w_1, y_part, y_sl1v, y_sl1b, y_sl1n, y_sl2v, y_sl2b, y_sl2n, v_isTT, v_isTI, v_isTB, v_isTS, v_isIT, v_isII, v_isIB, v_isIS, v_isBT, v_isBI, v_isBB, v_isBS, v_isST, v_isSI, v_isSB, v_isSS, v_isN, x_rev, x_join, x_fmt, x_fstr, x_zipS, y_rev, y_join1, y_join2, y_fmt, y_fstr, y_rtS, y_zipS1, y_zipS2, v_revL, x_callF, y_callF, List.getElem?_cons_zero, List.getElem?_cons_succ, List.set_cons_zero, List.set_cons_succ, decide_true, decide_false, Int.reduceEq, Int.reduceLT, Int.reduceLE, decide_eq_true_eq, Bool.not_true, Bool.not_false, if_true, if_false, Bool.false_eq_true, b__law_put, List.map_nil, eq_nilT (show okN 1 (.tup []) = true from rfl), List.isEmpty_nil, setP]
  | cons k p ih =>
    intro n0 d x y hx hd h
    cases x <;> first | (simp [getP] at h; done) | skip
    case tup xs =>
      cases d with
      | zero => simp [okN] at hx
      | succ d =>
      have hx' := okN_tup.mp hx
      simp only [getP] at h
      obtain ⟨z, h1, h2⟩ := Option.bind_eq_some_iff.mp h
      have hk : k < xs.length := (List.getElem?_eq_some_iff.mp h1).1
      have hz : xs.getD k .non = z := by rw [List.getD_eq_getElem?_getD, h1]; rfl
      have hm := List.mem_of_getElem? h1
      simp only [List.length_cons] at hd
      obtain ⟨er, hr⟩ := ih n0 d z y (hx'.2 z hm) (by omega) h2
      have hp : ((k :: p).map nD).isEmpty = false := rfl
      have okp := okN_path (n := 0) (p := k :: p) (by simp only [List.length_cons]; omega)
      have ex : atD xs (k : Int) = some z := atD_nat h1
      have c1 : cutD ((k :: p).map nD) (some 1) none = p.map nD := by simp [cutD, sIx]; exact List.take_of_length_le (by simp)
      have a1 : (xs.take k).length ≤ 1000 := by rw [List.length_take]; omega
      have a2 : (xs.take k ++ [setP p z v] ++ xs.drop (k + 1)).length = xs.length := by simp; omega
      refine ⟨?_, ?_⟩
      · rw [show n0 + (k :: p).length + 1 = (n0 + p.length + 1) + 1 by simp only [List.length_cons]; omega, run__law_put, r__law_put]
        have ep : (k :: p).map nD = nD k :: p.map nD := rfl
        rw [ep] at hp okp c1
        simp -implicitDefEqProofs only [x_var, y_var, x_con, x_glob, x_bin, x_neg, x_cmp, x_chain, x_isN, x_notN, x_and, x_and1, x_or, x_or1, x_not, x_ife, x_call, x_callP, x_bi, x_isi, x_listRg, x_ix, x_sl, x_tup, x_lst, x_comp, x_compIf, x_box, x_pop, x_popAt, x_append, x_nil, x_cons, x_seq, x_rng1, x_rng2, x_zip, x_asg, x_setix, x_aug, x_ex, x_if, x_for, x_while, x_ret, x_brk, x_cont, x_bnil, x_bcons, y_rt1, y_rtB, y_bin1, y_bin2, y_cmp1, y_cmp2, y_neg, y_isN, y_notN, y_andT, y_andF, y_orT, y_orF, y_not, y_ifT, y_ifF, y_chain1, y_chain2, y_chainT, y_chainF, y_chain3, y_cons1, y_cons2, y_call, y_callP, y_bi, y_isi, y_ix1, y_ix2, y_tup0, y_tup1, y_tup2, y_tup3, y_tup4, y_lst0, y_lst1, y_lst2, y_lst3, y_lc, y_box, y_pop, y_popAt1, y_popAt2, y_append1, y_append2, y_rtL, y_seq, y_seqT, y_seqL, y_rng21, y_zip1, y_zip2, y_zipT, y_zipL, y_rtE, y_asg, y_set1, y_set2, y_set3, y_aug, y_augA, y_augS, y_ex, y_ifST, y_ifSF, y_for, y_ret, y_nx, y_rt, y_bk, y_ct, y_fnR, y_fnN, y_nm, y_tp, y_tgn, y_tgc, y_tgk, v_add, v_sub, v_eqI, v_eqS, v_eqB, v_neI, v_neS, v_neB, v_lt, v_le, v_gt, v_ge, v_lenT, v_lenL, v_lenF, v_tupL, v_tupT, v_listL, v_listT, v_intI, v_intB, v_max, v_min, v_ixT, v_ixL, v_at0, v_at1, v_at2, y_lst4, y_lst5, y_lst6, y_lst7, y_tup5, y_tup6, y_sl1, y_sl1i, y_sl2, y_sl2i, y_sl3, v_slF, v_slL, v_slT, w_0, w_1, y_part, y_sl1v, y_sl1b, y_sl1n, y_sl2v, y_sl2b, y_sl2n, v_isTT, v_isTI, v_isTB, v_isTS, v_isIT, v_isII, v_isIB, v_isIS, v_isBT, v_isBI, v_isBB, v_isBS, v_isST, v_isSI, v_isSB, v_isSS, v_isN, x_rev, x_join, x_fmt, x_fstr, x_zipS, y_rev, y_join1, y_join2, y_fmt, y_fstr, y_rtS, y_zipS1, y_zipS2, v_revL, x_callF, y_callF, List.getElem?_cons_zero, List.getElem?_cons_succ, List.set_cons_zero, List.set_cons_succ, decide_true, decide_false, Int.reduceEq, Int.reduceLT, Int.reduceLE, decide_eq_true_eq, Bool.not_true, Bool.not_false, if_true, if_false, Bool.false_eq_true, b__law_put, ep, eq_nilT okp, hp, cut_take hk, ex, c1, er, y_pure (okN_pure hr).1, cut_drop hk, v_catT (show (xs.take k).length + [setP p z v].length ≤ lim from lim10 (by simp only [List.length_singleton]; omega)), v_catT (show (xs.take k ++ [setP p z v]).length + (xs.drop (k + 1)).length ≤ lim from lim10 (by rw [← List.length_append, a2]; omega)), set_cut hk, setP, hz]
      · rw [show d + 1 + e = (d + e) + 1 by omega]
        simp only [setP, hz]
        refine okN_tup.mpr ⟨by rw [List.length_set]; omega, ?_⟩
        intro w hw
        rcases List.mem_or_eq_of_mem_set hw with hw | rfl
        · exact okN_le (hx'.2 w hw) (by omega)
        · exact hr
/-! parts as lists -/
def Ps.ls : Ps → List (Str × Kd)
  | .nil => []
  | .cons s k r => (s, k) :: Ps.ls r
def Ks.ls : Ks → List Kd
  | .nil => []
  | .cons k r => k :: Ks.ls r
theorem of_ls : ∀ {p : Ps}, Ps.of p.ls = p
  | .nil => rfl
  | .cons s k r => by simp only [Ps.ls, Ps.of, of_ls]
theorem of_lsk : ∀ {p : Ks}, Ks.of p.ls = p
  | .nil => rfl
  | .cons k r => by simp only [Ks.ls, Ks.of, of_lsk]
theorem ls_psD {p : Ps} : psD p = p.ls.map pk := by rw [← of_psD, of_ls]
theorem ls_ksD {p : Ks} : ksD p = p.ls.map toK := by rw [← of_ksD, of_lsk]
theorem ls_wf : ∀ {p : Ps}, wfp p = true → ∀ q ∈ p.ls, nmOk q.1 = true ∧ wf q.2 = true
  | .nil, _, q, h => by cases h
  | .cons s k r, h, q, hq => by
    simp only [wfp, Bool.and_eq_true] at h
    rcases List.mem_cons.mp hq with rfl | hq
    · exact h.1
    · exact ls_wf h.2 q hq
theorem ls_wfk : ∀ {p : Ks}, wfk p = true → ∀ q ∈ p.ls, wf q = true
  | .nil, _, q, h => by cases h
  | .cons k r, h, q, hq => by
    simp only [wfk, Bool.and_eq_true] at h
    rcases List.mem_cons.mp hq with rfl | hq
    · exact h.1
    · exact ls_wfk h.2 q hq
def lz (l : List (Str × Kd)) : Nat := (l.map fun p => kz p.2).sum
def lzk (l : List Kd) : Nat := (l.map kz).sum
theorem pz_ls : ∀ {p : Ps}, pz p = lz p.ls
  | .nil => rfl
  | .cons s k r => by simp only [pz, Ps.ls, lz, List.map_cons, List.sum_cons]; rw [pz_ls]; rfl
theorem fz_ls : ∀ {p : Ks}, fz p = lzk p.ls
  | .nil => rfl
  | .cons k r => by simp only [fz, Ks.ls, lzk, List.map_cons, List.sum_cons]; rw [fz_ls]; rfl
theorem pz_of {l : List (Str × Kd)} : pz (Ps.of l) = lz l := by
  induction l with
  | nil => rfl
  | cons p r ih => simp only [Ps.of, pz, lz, List.map_cons, List.sum_cons, ih]
theorem fz_of {l : List Kd} : fz (Ks.of l) = lzk l := by
  induction l with
  | nil => rfl
  | cons p r ih => simp only [Ks.of, fz, lzk, List.map_cons, List.sum_cons, ih]
theorem lz_set : ∀ {l : List (Str × Kd)} {i : Nat} {q : Str × Kd} (h : i < l.length), lz (l.set i q) + kz l[i].2 = lz l + kz q.2
  | [], i, q, h => by simp at h
  | p :: r, 0, q, h => by simp only [List.set_cons_zero, lz, List.map_cons, List.sum_cons, List.getElem_cons_zero]; omega
  | p :: r, i + 1, q, h => by
    have := lz_set (l := r) (i := i) (q := q) (by simpa using h)
    simp only [List.set_cons_succ, lz, List.map_cons, List.sum_cons, List.getElem_cons_succ] at this ⊢
    omega
theorem lzk_set : ∀ {l : List Kd} {i : Nat} {q : Kd} (h : i < l.length), lzk (l.set i q) + kz l[i] = lzk l + kz q
  | [], i, q, h => by simp at h
  | p :: r, 0, q, h => by simp only [List.set_cons_zero, lzk, List.map_cons, List.sum_cons, List.getElem_cons_zero]; omega
  | p :: r, i + 1, q, h => by
    have := lzk_set (l := r) (i := i) (q := q) (by simpa using h)
    simp only [List.set_cons_succ, lzk, List.map_cons, List.sum_cons, List.getElem_cons_succ] at this ⊢
    omega
/-! a kind's data -/
theorem nm_str {s : Str} (h : nmOk s = true) {n : Nat} : okN n (.str s) = true := by
  have b := nm_all h
  have l := nm_le h
  have c : PyData.strOk s = true := by
    unfold PyData.strOk
    rw [Array.all_eq_true_iff_forall_mem]
    intro x hx
    have := List.all_eq_true.mp b x (Array.mem_toList_iff.mpr hx)
    simp only [ltr, Bool.and_eq_true, decide_eq_true_eq] at this
    exact decide_eq_true (by omega)
  cases n <;> (simp only [okN, c, Bool.true_and, decide_eq_true_eq]; omega)
theorem wd_ok : okN 0 (.str "truth") = true ∧ okN 0 (.str (wNum true)) = true ∧ okN 0 (.str (wNum false)) = true ∧ okN 0 (.str "hole") = true ∧ okN 0 (.str (wRec true)) = true ∧ okN 0 (.str (wRec false)) = true ∧ okN 0 (.str "row") = true ∧ okN 0 (.str (wWrap true)) = true ∧ okN 0 (.str (wWrap false)) = true ∧ okN 0 (.str "use") = true := by decide +kernel
theorem okN_0 {n : Nat} {x : D} (h : okN 0 x = true) : okN n x = true := okN_le h (Nat.zero_le _)
mutual
theorem ok_k : ∀ {k : Kd}, wf k = true → kz k ≤ 1000 → okN (3 * kz k) (toK k) = true
  | .truth, _, _ => okN_tup.mpr ⟨by simp, by simpa using okN_0 wd_ok.1⟩
  | .num i b, _, _ => by
    refine okN_tup.mpr ⟨by simp, ?_⟩
    intro x hx
    simp only [List.mem_cons, List.not_mem_nil, or_false] at hx
    rcases hx with rfl | rfl
    · cases i
      · exact okN_0 wd_ok.2.2.1
      · exact okN_0 wd_ok.2.1
    · rfl
  | .hole s, h, _ => by
    refine okN_tup.mpr ⟨by simp, ?_⟩
    intro x hx
    simp only [List.mem_cons, List.not_mem_nil, or_false] at hx
    rcases hx with rfl | rfl
    · exact okN_0 wd_ok.2.2.2.1
    · exact nm_str h
  | .rcd v ps, h, hz => by
    simp only [kz] at hz ⊢
    have hl := (ptx_len (ps := ps)).2
    rw [toK, show 3 * (1 + pz ps) = (3 * pz ps + 2) + 1 by omega]
    refine okN_tup.mpr ⟨by simp, ?_⟩
    intro x hx
    simp only [List.mem_cons, List.not_mem_nil, or_false] at hx
    rcases hx with rfl | rfl
    · cases v
      · exact okN_0 wd_ok.2.2.2.2.2.1
      · exact okN_0 wd_ok.2.2.2.2.1
    · exact okN_tup.mpr ⟨by omega, ok_p (by simpa [wf] using h) (by omega)⟩
  | .row n k, h, hz => by
    simp only [wf, Bool.and_eq_true] at h
    simp only [kz] at hz ⊢
    have ih := ok_k h.2 (by omega)
    rw [toK, show 3 * (1 + kz k) = (3 * kz k + 2) + 1 by omega]
    refine okN_tup.mpr ⟨by simp, ?_⟩
    intro x hx
    simp only [List.mem_cons, List.not_mem_nil, or_false] at hx
    rcases hx with rfl | rfl | rfl
    · exact okN_0 wd_ok.2.2.2.2.2.2.1
    · rfl
    · exact okN_le ih (by omega)
  | .wrap b k, h, hz => by
    simp only [kz] at hz ⊢
    have ih := ok_k (k := k) h (by omega)
    rw [toK, show 3 * (1 + kz k) = (3 * kz k + 2) + 1 by omega]
    refine okN_tup.mpr ⟨by simp, ?_⟩
    intro x hx
    simp only [List.mem_cons, List.not_mem_nil, or_false] at hx
    rcases hx with rfl | rfl
    · cases b
      · exact okN_0 wd_ok.2.2.2.2.2.2.2.2.1
      · exact okN_0 wd_ok.2.2.2.2.2.2.2.1
    · exact okN_le ih (by omega)
  | .use s fs, h, hz => by
    simp only [wf, Bool.and_eq_true] at h
    simp only [kz] at hz ⊢
    have hl := (ktx_len (ps := fs)).2
    rw [toK, show 3 * (1 + fz fs) = (3 * fz fs + 2) + 1 by omega]
    refine okN_tup.mpr ⟨by simp, ?_⟩
    intro x hx
    simp only [List.mem_cons, List.not_mem_nil, or_false] at hx
    rcases hx with rfl | rfl | rfl
    · exact okN_0 wd_ok.2.2.2.2.2.2.2.2.2
    · exact nm_str h.1
    · exact okN_tup.mpr ⟨by omega, ok_f h.2 (by omega)⟩
theorem ok_p : ∀ {ps : Ps}, wfp ps = true → pz ps ≤ 1000 → ∀ x ∈ psD ps, okN (3 * pz ps + 1) x = true
  | .nil, _, _, x, hx => by simp [psD] at hx
  | .cons s k r, h, hz, x, hx => by
    simp only [wfp, Bool.and_eq_true] at h
    simp only [pz] at hz ⊢
    have ih := ok_k h.1.2 (by omega)
    rw [psD] at hx
    rcases List.mem_cons.mp hx with rfl | hx
    · refine okN_tup.mpr ⟨by simp, ?_⟩
      intro x hx
      simp only [List.mem_cons, List.not_mem_nil, or_false] at hx
      rcases hx with rfl | rfl
      · exact nm_str h.1.1
      · exact okN_le ih (by omega)
    · exact okN_le (ok_p h.2 (by omega) x hx) (by omega)
theorem ok_f : ∀ {ps : Ks}, wfk ps = true → fz ps ≤ 1000 → ∀ x ∈ ksD ps, okN (3 * fz ps + 1) x = true
  | .nil, _, _, x, hx => by simp [ksD] at hx
  | .cons k r, h, hz, x, hx => by
    simp only [wfk, Bool.and_eq_true] at h
    simp only [fz] at hz ⊢
    have ih := ok_k h.1 (by omega)
    rw [ksD] at hx
    rcases List.mem_cons.mp hx with rfl | hx
    · exact okN_le ih (by omega)
    · exact okN_le (ok_f h.2 (by omega) x hx) (by omega)
end
mutual
theorem sz_k : ∀ (k : Kd), sz (toK k) + 5 ≤ 10 * kz k
  | .truth => by simp [toK, sz, szs, kz]
  | .num _ _ => by simp [toK, sz, szs, kz]
  | .hole _ => by simp [toK, sz, szs, kz]
  | .rcd v ps => by have := sz_p ps; simp only [toK, sz, szs, kz]; omega
  | .row n k => by have := sz_k k; simp only [toK, sz, szs, kz]; omega
  | .wrap b k => by have := sz_k k; simp only [toK, sz, szs, kz]; omega
  | .use s fs => by have := sz_f fs; simp only [toK, sz, szs, kz]; omega
theorem sz_p : ∀ (ps : Ps), szs (psD ps) ≤ 10 * pz ps
  | .nil => by simp [psD, szs]
  | .cons s k r => by have := sz_k k; have := sz_p r; simp only [psD, sz, szs, pz]; omega
theorem sz_f : ∀ (ps : Ks), szs (ksD ps) ≤ 10 * fz ps
  | .nil => by simp [ksD, szs]
  | .cons k r => by have := sz_k k; have := sz_f r; simp only [ksD, szs, fz]; omega
end
end Lw

namespace Lw
open PySem Pv
theorem pures_okN {n : Nat} {l : List D} (h : ∀ x ∈ l, okN n x = true) : pures l = true ∧ PyData.canLayAll0 (toPs l) = true := by
  induction l with
  | nil => exact ⟨rfl, by simp [toPs, PyData.canLayAll0]⟩
  | cons x r ih =>
    have a := okN_pure (h x List.mem_cons_self)
    have b := ih fun y hy => h y (List.mem_cons_of_mem _ hy)
    exact ⟨by rw [pures, a.1, b.1]; rfl, by rw [toPs, PyData.canLayAll0, a.2, b.2]; rfl⟩
theorem popR {m : M} {l : Nat} {xs : List D} {y : D} (h : m[l]? = some (.lst (xs ++ [y]))) : popM m (.ref l) = some (y, m.set l (.lst xs)) := by
  simp only [popM, h]
  have e : (xs ++ [y])[(xs ++ [y]).length - 1]? = some y := by simp
  rw [e]
  simp
theorem catR {m : M} {l : Nat} {xs ys : List D} (h : m[l]? = some (.lst xs)) (hl : xs.length + ys.length ≤ lim) : bopD m .add (.ref l) (.lst ys) = some (.lst (xs ++ ys)) := by
  show (match deref m (.ref l), deref m (.lst ys) with | D.lst a, D.lst b => if a.length + b.length ≤ lim then some (D.lst (a ++ b)) else none | _, _ => none) = _
  have e : deref m (.ref l) = .lst xs := by simp only [deref, h]
  have e2 : deref m (.lst ys) = .lst ys := rfl
  rw [e, e2]
  simp only [hl, if_true]
theorem set_right {m g : M} {l : Nat} {v : MO} (h : m.length ≤ l) : (m ++ g).set l v = m ++ g.set (l - m.length) v := by
  rw [List.set_append_right _ _ h]
theorem get_set_right {m g : M} {l : Nat} {v u : MO} (h : m.length ≤ l) (hm : (m ++ g)[l]? = some u) : (m ++ g.set (l - m.length) v)[l]? = some v := by
  rw [← set_right h]
  have hl : l < (m ++ g).length := by
    rcases Nat.lt_or_ge l (m ++ g).length with q | q
    · exact q
    · rw [List.getElem?_eq_none q] at hm; cases hm
  exact List.getElem?_set_self hl
theorem nil_or_end {α : Type} (l : List α) : l = [] ∨ ∃ L q, l = L ++ [q] := by
  rcases List.eq_nil_or_concat l with h | ⟨L, q, h⟩
  · exact .inl h
  · exact .inr ⟨L, q, by rw [h, List.concat_eq_append]⟩
abbrev pr (p : D × D) : D := .tup [p.1, p.2]
def szp (hs : List (D × D)) : Nat := (hs.map fun p => sz p.1).sum
theorem szp_app {a b : List (D × D)} : szp (a ++ b) = szp a + szp b := by simp [szp]
theorem szp_zip : ∀ {xs ys : List D}, xs.length = ys.length → szp (xs.zip ys) = szs xs
  | [], [], _ => rfl
  | [], _ :: _, h => by simp at h
  | _ :: _, [], h => by simp at h
  | x :: xs, y :: ys, h => by
    have ih := szp_zip (xs := xs) (ys := ys) (by simpa using h)
    simp only [szp, List.zip_cons_cons, List.map_cons, List.sum_cons, szs] at ih ⊢
    omega
theorem szp_len (hs : List (D × D)) : hs.length ≤ szp hs := by
  induction hs with
  | nil => simp
  | cons p hs ih =>
    have := sz_pos p.1
    simp only [szp, List.map_cons, List.sum_cons, List.length_cons] at ih ⊢
    omega
theorem zip_all : ∀ {xs ys : List D}, xs.length = ys.length → ((∀ p ∈ xs.zip ys, p.1 = p.2) ↔ xs = ys)
  | [], [], _ => by simp
  | [], _ :: _, h => by simp at h
  | _ :: _, [], h => by simp at h
  | x :: xs, y :: ys, h => by
    have ih := zip_all (xs := xs) (ys := ys) (by simpa using h)
    simp only [List.zip_cons_cons, List.forall_mem_cons, ih, List.cons.injEq]
/-- the pairs by their number -/
theorem zip_rng {xs ys : List D} (h : xs.length = ys.length) : (rangeD 0 xs.length).map (fun d => match d with | .int i => D.tup [xs.getD i.toNat .non, ys.getD i.toNat .non] | _ => .non) = (xs.zip ys).map pr := by
  apply List.ext_getElem
  · simp [rangeD, h]
  · intro i h1 h2
    simp only [rangeD, List.length_map, List.length_range] at h1
    have h2' : i < ys.length := by omega
    simp [rangeD, h1, h2', pr]
theorem same_ok {G : List D} {n k : Nat} {x y : D} (hx : okN n x = true) (hy : okN n y = true) (hs : sz x < 900000) (m : M) :
    ∃ g, run tab G (k + 1) 4 [x, y] m = some (.bl (decide (x = y)), m ++ g) := by
  rw [run__law_same, r__law_same]
  have W := while_ok (tc := evE (run tab G k) G (.cmp .ne (.var 2) (.lst .nil))) (tb := evB (run tab G k) G l__law_same_0)
    (fun j env mm => ∃ g l hs a b, env = [some x, some y, some (.ref l), a, b, none] ∧ mm = m ++ g ∧ m.length ≤ l ∧ mm[l]? = some (.lst (hs.map pr)) ∧ (∀ p ∈ hs, okN n p.1 = true ∧ okN n p.2 = true) ∧ (x = y ↔ ∀ p ∈ hs, p.1 = p.2) ∧ j = szp hs ∧ szp hs < 900000)
    (fun r => (x = y ∧ ∃ env g, r = some (.nx, env, m ++ g)) ∨ (x ≠ y ∧ ∃ env g, r = some (.rt (.bl false), env, m ++ g))) (by
      rintro j env mm ⟨g, l, hs, a, b, rfl, rfl, hl, hm, hok, hiff, rfl, hz⟩
      have hp : pures (hs.map pr) = true ∧ PyData.canLayAll0 (toPs (hs.map pr)) = true := pures_okN (n := n + 1) (by
        intro d hd
        obtain ⟨p, hp, rfl⟩ := List.mem_map.mp hd
        have := hok p hp
        rw [okN_tup]
        exact ⟨by simp, by simp [this.1, this.2]⟩)
      have tc := ne_nilR hm hp
      rcases nil_or_end hs with rfl | ⟨hs', ⟨l1, r1⟩, rfl⟩
      · refine .inl ⟨m ++ g, ?_, .inl ⟨hiff.mpr (by simp), _, _, rfl⟩⟩
        simp -implicitDefEqProofs only [x_var, y_var, x_con, x_glob, x_bin, x_neg, x_cmp, x_chain, x_isN, x_notN, x_and, x_and1, x_or, x_or1, x_not, x_ife, x_call, x_callP, x_bi, x_isi, x_listRg, x_ix, x_sl, x_tup, x_lst, x_comp, x_compIf, x_box, x_pop, x_popAt, x_append, x_nil, x_cons, x_seq, x_rng1, x_rng2, x_zip, x_asg, x_setix, x_aug, x_ex, x_if, x_for, x_while, x_ret, x_brk, x_cont, x_bnil, x_bcons, y_rt1, y_rtB, y_bin1, y_bin2, y_cmp1, y_cmp2, y_neg, y_isN, y_notN, y_andT, y_andF, y_orT, y_orF, y_not, y_ifT, y_ifF, y_chain1, y_chain2, y_chainT, y_chainF, y_chain3, y_cons1, y_cons2, y_call, y_callP, y_bi, y_isi, y_ix1, y_ix2, y_tup0, y_tup1, y_tup2, y_tup3, y_tup4, y_lst0, y_lst1, y_lst2, y_lst3, y_lc, y_box, y_pop, y_popAt1, y_popAt2, y_append1, y_append2, y_rtL, y_seq, y_seqT, y_seqL, y_rng21, y_zip1, y_zip2, y_zipT, y_zipL, y_rtE, y_asg, y_set1, y_set2, y_set3, y_aug, y_augA, y_augS, y_ex, y_ifST, y_ifSF, y_for, y_ret, y_nx, y_rt, y_bk, y_ct, y_fnR, y_fnN, y_nm, y_tp, y_tgn, y_tgc, y_tgk, v_add, v_sub, v_eqI, v_eqS, v_eqB, v_neI, v_neS, v_neB, v_lt, v_le, v_gt, v_ge, v_lenT, v_lenL, v_lenF, v_tupL, v_tupT, v_listL, v_listT, v_intI, v_intB, v_max, v_min, v_ixT, v_ixL, v_at0, v_at1, v_at2, y_lst4, y_lst5, y_lst6, y_lst7, y_tup5, y_tup6, y_sl1, y_sl1i, y_sl2, y_sl2i, y_sl3, v_slF, v_slL, v_slT, w_0, w_1, y_part, y_sl1v, y_sl1b, y_sl1n, y_sl2v, y_sl2b, y_sl2n, v_isTT, v_isTI, v_isTB, v_isTS, v_isIT, v_isII, v_isIB, v_isIS, v_isBT, v_isBI, v_isBB, v_isBS, v_isST, v_isSI, v_isSB, v_isSS, v_isN, x_rev, x_join, x_fmt, x_fstr, x_zipS, y_rev, y_join1, y_join2, y_fmt, y_fstr, y_rtS, y_zipS1, y_zipS2, v_revL, x_callF, y_callF, List.getElem?_cons_zero, List.getElem?_cons_succ, List.set_cons_zero, List.set_cons_succ, decide_true, decide_false, Int.reduceEq, Int.reduceLT, Int.reduceLE, decide_eq_true_eq, Bool.not_true, Bool.not_false, if_true, if_false, Bool.false_eq_true, tc, List.map_nil, List.isEmpty_nil]
      · refine .inr ?_
        have tc2 : evE (run tab G k) G (.cmp .ne (.var 2) (.lst .nil)) [some x, some y, some (.ref l), a, b, none] (m ++ g) = some (.bl true, m ++ g) := by
          have : ((hs' ++ [(l1, r1)]).map pr).isEmpty = false := by simp
          simp -implicitDefEqProofs only [x_var, y_var, x_con, x_glob, x_bin, x_neg, x_cmp, x_chain, x_isN, x_notN, x_and, x_and1, x_or, x_or1, x_not, x_ife, x_call, x_callP, x_bi, x_isi, x_listRg, x_ix, x_sl, x_tup, x_lst, x_comp, x_compIf, x_box, x_pop, x_popAt, x_append, x_nil, x_cons, x_seq, x_rng1, x_rng2, x_zip, x_asg, x_setix, x_aug, x_ex, x_if, x_for, x_while, x_ret, x_brk, x_cont, x_bnil, x_bcons, y_rt1, y_rtB, y_bin1, y_bin2, y_cmp1, y_cmp2, y_neg, y_isN, y_notN, y_andT, y_andF, y_orT, y_orF, y_not, y_ifT, y_ifF, y_chain1, y_chain2, y_chainT, y_chainF, y_chain3, y_cons1, y_cons2, y_call, y_callP, y_bi, y_isi, y_ix1, y_ix2, y_tup0, y_tup1, y_tup2, y_tup3, y_tup4, y_lst0, y_lst1, y_lst2, y_lst3, y_lc, y_box, y_pop, y_popAt1, y_popAt2, y_append1, y_append2, y_rtL, y_seq, y_seqT, y_seqL, y_rng21, y_zip1, y_zip2, y_zipT, y_zipL, y_rtE, y_asg, y_set1, y_set2, y_set3, y_aug, y_augA, y_augS, y_ex, y_ifST, y_ifSF, y_for, y_ret, y_nx, y_rt, y_bk, y_ct, y_fnR, y_fnN, y_nm, y_tp, y_tgn, y_tgc, y_tgk, v_add, v_sub, v_eqI, v_eqS, v_eqB, v_neI, v_neS, v_neB, v_lt, v_le, v_gt, v_ge, v_lenT, v_lenL, v_lenF, v_tupL, v_tupT, v_listL, v_listT, v_intI, v_intB, v_max, v_min, v_ixT, v_ixL, v_at0, v_at1, v_at2, y_lst4, y_lst5, y_lst6, y_lst7, y_tup5, y_tup6, y_sl1, y_sl1i, y_sl2, y_sl2i, y_sl3, v_slF, v_slL, v_slT, w_0, w_1, y_part, y_sl1v, y_sl1b, y_sl1n, y_sl2v, y_sl2b, y_sl2n, v_isTT, v_isTI, v_isTB, v_isTS, v_isIT, v_isII, v_isIB, v_isIS, v_isBT, v_isBI, v_isBB, v_isBS, v_isST, v_isSI, v_isSB, v_isSS, v_isN, x_rev, x_join, x_fmt, x_fstr, x_zipS, y_rev, y_join1, y_join2, y_fmt, y_fstr, y_rtS, y_zipS1, y_zipS2, v_revL, x_callF, y_callF, List.getElem?_cons_zero, List.getElem?_cons_succ, List.set_cons_zero, List.set_cons_succ, decide_true, decide_false, Int.reduceEq, Int.reduceLT, Int.reduceLE, decide_eq_true_eq, Bool.not_true, Bool.not_false, if_true, if_false, Bool.false_eq_true, tc, this]
        have hm' : (m ++ g)[l]? = some (.lst (hs'.map pr ++ [.tup [l1, r1]])) := by rw [hm, List.map_append]; rfl
        have pp := popR hm'
        rw [set_right hl] at pp
        have hml := get_set_right (v := .lst (hs'.map pr)) hl hm'
        have hokq := hok (l1, r1) (by simp)
        have hok' : ∀ p ∈ hs', okN n p.1 = true ∧ okN n p.2 = true := fun p hp => hok p (List.mem_append_left _ hp)
        have hz2 : szp (hs' ++ [(l1, r1)]) = szp hs' + sz l1 := by rw [szp_app]; simp [szp]
        have hall : (∀ p ∈ hs' ++ [(l1, r1)], p.1 = p.2) ↔ (∀ p ∈ hs', p.1 = p.2) ∧ l1 = r1 := by
          constructor
          · intro h; exact ⟨fun p hp => h p (List.mem_append_left _ hp), h (l1, r1) (by simp)⟩
          · rintro ⟨h1, h2⟩ p hp
            rcases List.mem_append.mp hp with hp | hp
            · exact h1 p hp
            · rw [List.mem_singleton.mp hp]; exact h2
        have hpos := sz_pos l1
        -- what goes on, what ends
        have go : ∀ {a b}, l1 = r1 → evB (run tab G k) G l__law_same_0 [some x, some y, some (.ref l), a, b, none] (m ++ g) = some (.nx, [some x, some y, some (.ref l), some l1, some r1, none], m ++ g.set (l - m.length) (.lst (hs'.map pr))) →
            (∃ m1 e2 m2, evE (run tab G k) G (.cmp .ne (.var 2) (.lst .nil)) [some x, some y, some (.ref l), a, b, none] (m ++ g) = some (.bl true, m1) ∧ evB (run tab G k) G l__law_same_0 [some x, some y, some (.ref l), a, b, none] m1 = some (.nx, e2, m2) ∧ ∃ j, j < szp (hs' ++ [(l1, r1)]) ∧ ∃ g l hs a b, e2 = [some x, some y, some (.ref l), a, b, none] ∧ m2 = m ++ g ∧ m.length ≤ l ∧ m2[l]? = some (.lst (hs.map pr)) ∧ (∀ p ∈ hs, okN n p.1 = true ∧ okN n p.2 = true) ∧ (x = y ↔ ∀ p ∈ hs, p.1 = p.2) ∧ j = szp hs ∧ szp hs < 900000) := by
          intro a b he hb
          refine ⟨m ++ g, _, _, ?_, hb, szp hs', by omega, _, l, hs', _, _, rfl, rfl, hl, hml, hok', ?_, rfl, by omega⟩
          · have t := ne_nilR hm hp
            have : ((hs' ++ [(l1, r1)]).map pr).isEmpty = false := by simp
            simp -implicitDefEqProofs only [x_var, y_var, x_con, x_glob, x_bin, x_neg, x_cmp, x_chain, x_isN, x_notN, x_and, x_and1, x_or, x_or1, x_not, x_ife, x_call, x_callP, x_bi, x_isi, x_listRg, x_ix, x_sl, x_tup, x_lst, x_comp, x_compIf, x_box, x_pop, x_popAt, x_append, x_nil, x_cons, x_seq, x_rng1, x_rng2, x_zip, x_asg, x_setix, x_aug, x_ex, x_if, x_for, x_while, x_ret, x_brk, x_cont, x_bnil, x_bcons, y_rt1, y_rtB, y_bin1, y_bin2, y_cmp1, y_cmp2, y_neg, y_isN, y_notN, y_andT, y_andF, y_orT, y_orF, y_not, y_ifT, y_ifF, y_chain1, y_chain2, y_chainT, y_chainF, y_chain3, y_cons1, y_cons2, y_call, y_callP, y_bi, y_isi, y_ix1, y_ix2, y_tup0, y_tup1, y_tup2, y_tup3, y_tup4, y_lst0, y_lst1, y_lst2, y_lst3, y_lc, y_box, y_pop, y_popAt1, y_popAt2, y_append1, y_append2, y_rtL, y_seq, y_seqT, y_seqL, y_rng21, y_zip1, y_zip2, y_zipT, y_zipL, y_rtE, y_asg, y_set1, y_set2, y_set3, y_aug, y_augA, y_augS, y_ex, y_ifST, y_ifSF, y_for, y_ret, y_nx, y_rt, y_bk, y_ct, y_fnR, y_fnN, y_nm, y_tp, y_tgn, y_tgc, y_tgk, v_add, v_sub, v_eqI, v_eqS, v_eqB, v_neI, v_neS, v_neB, v_lt, v_le, v_gt, v_ge, v_lenT, v_lenL, v_lenF, v_tupL, v_tupT, v_listL, v_listT, v_intI, v_intB, v_max, v_min, v_ixT, v_ixL, v_at0, v_at1, v_at2, y_lst4, y_lst5, y_lst6, y_lst7, y_tup5, y_tup6, y_sl1, y_sl1i, y_sl2, y_sl2i, y_sl3, v_slF, v_slL, v_slT, w_0, w_1, y_part, y_sl1v, y_sl1b, y_sl1n, y_sl2v, y_sl2b, y_sl2n, v_isTT, v_isTI, v_isTB, v_isTS, v_isIT, v_isII, v_isIB, v_isIS, v_isBT, v_isBI, v_isBB, v_isBS, v_isST, v_isSI, v_isSB, v_isSS, v_isN, x_rev, x_join, x_fmt, x_fstr, x_zipS, y_rev, y_join1, y_join2, y_fmt, y_fstr, y_rtS, y_zipS1, y_zipS2, v_revL, x_callF, y_callF, List.getElem?_cons_zero, List.getElem?_cons_succ, List.set_cons_zero, List.set_cons_succ, decide_true, decide_false, Int.reduceEq, Int.reduceLT, Int.reduceLE, decide_eq_true_eq, Bool.not_true, Bool.not_false, if_true, if_false, Bool.false_eq_true, t, this]
          · rw [hiff, hall]
            exact ⟨fun h => h.1, fun h => ⟨h, he⟩⟩
        have no : l1 ≠ r1 → x ≠ y := fun h e => h ((hall.mp (hiff.mp e)).2)
        have fin : ∀ {R : Prop}, l1 ≠ r1 → evB (run tab G k) G l__law_same_0 [some x, some y, some (.ref l), a, b, none] (m ++ g) = some (.rt (.bl false), [some x, some y, some (.ref l), some l1, some r1, none], m ++ g.set (l - m.length) (.lst (hs'.map pr))) →
            (R ∨ ∃ m1 d e2 m2, evE (run tab G k) G (.cmp .ne (.var 2) (.lst .nil)) [some x, some y, some (.ref l), a, b, none] (m ++ g) = some (.bl true, m1) ∧ evB (run tab G k) G l__law_same_0 [some x, some y, some (.ref l), a, b, none] m1 = some (.rt d, e2, m2) ∧ ((x = y ∧ ∃ env g, (some (Fl.rt d, e2, m2) : Pv.R) = some (.nx, env, m ++ g)) ∨ (x ≠ y ∧ ∃ env g, (some (Fl.rt d, e2, m2) : Pv.R) = some (.rt (.bl false), env, m ++ g)))) := by
          intro R he hb
          exact .inr ⟨m ++ g, .bl false, _, _, tc2, hb, .inr ⟨no he, _, _, rfl⟩⟩
        cases l1 <;> cases r1
        case tup.tup xs ys =>
          by_cases hlen : xs.length = ys.length
          · cases n with
            | zero => exact absurd hokq.1 (by simp [okN])
            | succ n =>
            have h1 := okN_tup.mp hokq.1
            have h2 := okN_tup.mp hokq.2
            have hlr : (rangeD 0 xs.length).length ≤ lim := by rw [rangeD_len]; exact lim10 (by omega)
            have cm : compL (.nm 5) [some x, some y, some (.ref l), some (.tup xs), some (.tup ys), none] (evE (run tab G k) G (.tup (.cons (.ix (.var 3) (.var 5)) (.cons (.ix (.var 4) (.var 5)) .nil)))) (rangeD 0 xs.length) (m ++ g.set (l - m.length) (.lst (hs'.map pr))) = some ((xs.zip ys).map pr, m ++ g.set (l - m.length) (.lst (hs'.map pr))) := by
              rw [← zip_rng hlen, Pv.comp_map]
              intro d hd
              obtain ⟨i, hi, rfl⟩ : ∃ i : Nat, i < xs.length ∧ d = .int i := by
                simp only [rangeD] at hd
                obtain ⟨i, hi, rfl⟩ := List.mem_map.mp hd
                exact ⟨i, List.mem_range.mp hi, by simp⟩
              refine ⟨_, y_nm, ?_⟩
              have e1 : atD xs (i : Int) = some xs[i] := atD_nat (by simp [hi])
              have hi' : i < ys.length := by omega
              have e2 : atD ys (i : Int) = some ys[i] := atD_nat (by simp [hi'])
              simp -implicitDefEqProofs only [x_var, y_var, x_con, x_glob, x_bin, x_neg, x_cmp, x_chain, x_isN, x_notN, x_and, x_and1, x_or, x_or1, x_not, x_ife, x_call, x_callP, x_bi, x_isi, x_listRg, x_ix, x_sl, x_tup, x_lst, x_comp, x_compIf, x_box, x_pop, x_popAt, x_append, x_nil, x_cons, x_seq, x_rng1, x_rng2, x_zip, x_asg, x_setix, x_aug, x_ex, x_if, x_for, x_while, x_ret, x_brk, x_cont, x_bnil, x_bcons, y_rt1, y_rtB, y_bin1, y_bin2, y_cmp1, y_cmp2, y_neg, y_isN, y_notN, y_andT, y_andF, y_orT, y_orF, y_not, y_ifT, y_ifF, y_chain1, y_chain2, y_chainT, y_chainF, y_chain3, y_cons1, y_cons2, y_call, y_callP, y_bi, y_isi, y_ix1, y_ix2, y_tup0, y_tup1, y_tup2, y_tup3, y_tup4, y_lst0, y_lst1, y_lst2, y_lst3, y_lc, y_box, y_pop, y_popAt1, y_popAt2, y_append1, y_append2, y_rtL, y_seq, y_seqT, y_seqL, y_rng21, y_zip1, y_zip2, y_zipT, y_zipL, y_rtE, y_asg, y_set1, y_set2, y_set3, y_aug, y_augA, y_augS, y_ex, y_ifST, y_ifSF, y_for, y_ret, y_nx, y_rt, y_bk, y_ct, y_fnR, y_fnN, y_nm, y_tp, y_tgn, y_tgc, y_tgk, v_add, v_sub, v_eqI, v_eqS, v_eqB, v_neI, v_neS, v_neB, v_lt, v_le, v_gt, v_ge, v_lenT, v_lenL, v_lenF, v_tupL, v_tupT, v_listL, v_listT, v_intI, v_intB, v_max, v_min, v_ixT, v_ixL, v_at0, v_at1, v_at2, y_lst4, y_lst5, y_lst6, y_lst7, y_tup5, y_tup6, y_sl1, y_sl1i, y_sl2, y_sl2i, y_sl3, v_slF, v_slL, v_slT, w_0, w_1, y_part, y_sl1v, y_sl1b, y_sl1n, y_sl2v, y_sl2b, y_sl2n, v_isTT, v_isTI, v_isTB, v_isTS, v_isIT, v_isII, v_isIB, v_isIS, v_isBT, v_isBI, v_isBB, v_isBS, v_isST, v_isSI, v_isSB, v_isSS, v_isN, x_rev, x_join, x_fmt, x_fstr, x_zipS, y_rev, y_join1, y_join2, y_fmt, y_fstr, y_rtS, y_zipS1, y_zipS2, v_revL, x_callF, y_callF, List.getElem?_cons_zero, List.getElem?_cons_succ, List.set_cons_zero, List.set_cons_succ, decide_true, decide_false, Int.reduceEq, Int.reduceLT, Int.reduceLE, decide_eq_true_eq, Bool.not_true, Bool.not_false, if_true, if_false, Bool.false_eq_true, e1, e2, Int.toNat_natCast]
              simp [hi, hi']
            have hzl : (hs'.map pr).length + ((xs.zip ys).map pr).length ≤ lim := by
              have a := szp_len hs'
              have := h1.1
              simp only [List.length_map, List.length_zip, lim]
              omega
            have eR : ∀ m : M, kRng1 (some (.int (xs.length : Int), m)) = some (rangeD 0 xs.length, m) := fun m => by rw [y_rng1 (rgOk_of (by omega) (by omega)), Int.toNat_natCast]
            have hsz : sz (.tup xs) = 1 + szs xs := by simp [sz]
            refine .inl ⟨m ++ g, [some x, some y, some (.ref (m ++ g.set (l - m.length) (.lst (hs'.map pr))).length), some (.tup xs), some (.tup ys), none], (m ++ g.set (l - m.length) (.lst (hs'.map pr))) ++ [.lst (hs'.map pr ++ (xs.zip ys).map pr)], tc2, ?_, szp (hs' ++ xs.zip ys), ?_, g.set (l - m.length) (.lst (hs'.map pr)) ++ [.lst (hs'.map pr ++ (xs.zip ys).map pr)], (m ++ g.set (l - m.length) (.lst (hs'.map pr))).length, hs' ++ xs.zip ys, some (.tup xs), some (.tup ys), rfl, by rw [List.append_assoc], by simp, ?_, ?_, ?_, rfl, ?_⟩
            · have hli : ((xs.length : Int) = (ys.length : Int)) = True := by simp [hlen]
              simp -implicitDefEqProofs only [x_var, y_var, x_con, x_glob, x_bin, x_neg, x_cmp, x_chain, x_isN, x_notN, x_and, x_and1, x_or, x_or1, x_not, x_ife, x_call, x_callP, x_bi, x_isi, x_listRg, x_ix, x_sl, x_tup, x_lst, x_comp, x_compIf, x_box, x_pop, x_popAt, x_append, x_nil, x_cons, x_seq, x_rng1, x_rng2, x_zip, x_asg, x_setix, x_aug, x_ex, x_if, x_for, x_while, x_ret, x_brk, x_cont, x_bnil, x_bcons, y_rt1, y_rtB, y_bin1, y_bin2, y_cmp1, y_cmp2, y_neg, y_isN, y_notN, y_andT, y_andF, y_orT, y_orF, y_not, y_ifT, y_ifF, y_chain1, y_chain2, y_chainT, y_chainF, y_chain3, y_cons1, y_cons2, y_call, y_callP, y_bi, y_isi, y_ix1, y_ix2, y_tup0, y_tup1, y_tup2, y_tup3, y_tup4, y_lst0, y_lst1, y_lst2, y_lst3, y_lc, y_box, y_pop, y_popAt1, y_popAt2, y_append1, y_append2, y_rtL, y_seq, y_seqT, y_seqL, y_rng21, y_zip1, y_zip2, y_zipT, y_zipL, y_rtE, y_asg, y_set1, y_set2, y_set3, y_aug, y_augA, y_augS, y_ex, y_ifST, y_ifSF, y_for, y_ret, y_nx, y_rt, y_bk, y_ct, y_fnR, y_fnN, y_nm, y_tp, y_tgn, y_tgc, y_tgk, v_add, v_sub, v_eqI, v_eqS, v_eqB, v_neI, v_neS, v_neB, v_lt, v_le, v_gt, v_ge, v_lenT, v_lenL, v_lenF, v_tupL, v_tupT, v_listL, v_listT, v_intI, v_intB, v_max, v_min, v_ixT, v_ixL, v_at0, v_at1, v_at2, y_lst4, y_lst5, y_lst6, y_lst7, y_tup5, y_tup6, y_sl1, y_sl1i, y_sl2, y_sl2i, y_sl3, v_slF, v_slL, v_slT, w_0, w_1, y_part, y_sl1v, y_sl1b, y_sl1n, y_sl2v, y_sl2b, y_sl2n, v_isTT, v_isTI, v_isTB, v_isTS, v_isIT, v_isII, v_isIB, v_isIS, v_isBT, v_isBI, v_isBB, v_isBS, v_isST, v_isSI, v_isSB, v_isSS, v_isN, x_rev, x_join, x_fmt, x_fstr, x_zipS, y_rev, y_join1, y_join2, y_fmt, y_fstr, y_rtS, y_zipS1, y_zipS2, v_revL, x_callF, y_callF, List.getElem?_cons_zero, List.getElem?_cons_succ, List.set_cons_zero, List.set_cons_succ, decide_true, decide_false, Int.reduceEq, Int.reduceLT, Int.reduceLE, decide_eq_true_eq, Bool.not_true, Bool.not_false, if_true, if_false, Bool.false_eq_true, l__law_same_0, pp, hli, eR, y_comp hlr, cm, catR hml hzl]
            · rw [szp_app, szp_zip hlen]
              omega
            · rw [List.getElem?_append_right (Nat.le_refl _), Nat.sub_self, List.map_append]; rfl
            · intro p hp
              rcases List.mem_append.mp hp with hp | hp
              · exact hok' p hp
              · have := List.of_mem_zip (a := p.1) (b := p.2) hp
                exact ⟨okN_up (h1.2 _ this.1), okN_up (h2.2 _ this.2)⟩
            · rw [hiff, hall, List.forall_mem_append, zip_all hlen, D.tup.injEq]
            · rw [szp_app, szp_zip hlen]
              omega
          · have hli : ((xs.length : Int) = (ys.length : Int)) = False := by simp only [eq_iff_iff, iff_false]; omega
            exact fin (fun e => hlen (by cases e; rfl)) (by simp -implicitDefEqProofs only [x_var, y_var, x_con, x_glob, x_bin, x_neg, x_cmp, x_chain, x_isN, x_notN, x_and, x_and1, x_or, x_or1, x_not, x_ife, x_call, x_callP, x_bi, x_isi, x_listRg, x_ix, x_sl, x_tup, x_lst, x_comp, x_compIf, x_box, x_pop, x_popAt, x_append, x_nil, x_cons, x_seq, x_rng1, x_rng2, x_zip, x_asg, x_setix, x_aug, x_ex, x_if, x_for, x_while, x_ret, x_brk, x_cont, x_bnil, x_bcons, y_rt1, y_rtB, y_bin1, y_bin2, y_cmp1, y_cmp2, y_neg, y_isN, y_notN, y_andT, y_andF, y_orT, y_orF, y_not, y_ifT, y_ifF, y_chain1, y_chain2, y_chainT, y_chainF, y_chain3, y_cons1, y_cons2, y_call, y_callP, y_bi, y_isi, y_ix1, y_ix2, y_tup0, y_tup1, y_tup2, y_tup3, y_tup4, y_lst0, y_lst1, y_lst2, y_lst3, y_lc, y_box, y_pop, y_popAt1, y_popAt2, y_append1, y_append2, y_rtL, y_seq, y_seqT, y_seqL, y_rng21, y_zip1, y_zip2, y_zipT, y_zipL, y_rtE, y_asg, y_set1, y_set2, y_set3, y_aug, y_augA, y_augS, y_ex, y_ifST, y_ifSF, y_for, y_ret, y_nx, y_rt, y_bk, y_ct, y_fnR, y_fnN, y_nm, y_tp, y_tgn, y_tgc, y_tgk, v_add, v_sub, v_eqI, v_eqS, v_eqB, v_neI, v_neS, v_neB, v_lt, v_le, v_gt, v_ge, v_lenT, v_lenL, v_lenF, v_tupL, v_tupT, v_listL, v_listT, v_intI, v_intB, v_max, v_min, v_ixT, v_ixL, v_at0, v_at1, v_at2, y_lst4, y_lst5, y_lst6, y_lst7, y_tup5, y_tup6, y_sl1, y_sl1i, y_sl2, y_sl2i, y_sl3, v_slF, v_slL, v_slT, w_0, w_1, y_part, y_sl1v, y_sl1b, y_sl1n, y_sl2v, y_sl2b, y_sl2n, v_isTT, v_isTI, v_isTB, v_isTS, v_isIT, v_isII, v_isIB, v_isIS, v_isBT, v_isBI, v_isBB, v_isBS, v_isST, v_isSI, v_isSB, v_isSS, v_isN, x_rev, x_join, x_fmt, x_fstr, x_zipS, y_rev, y_join1, y_join2, y_fmt, y_fstr, y_rtS, y_zipS1, y_zipS2, v_revL, x_callF, y_callF, List.getElem?_cons_zero, List.getElem?_cons_succ, List.set_cons_zero, List.set_cons_succ, decide_true, decide_false, Int.reduceEq, Int.reduceLT, Int.reduceLE, decide_eq_true_eq, Bool.not_true, Bool.not_false, if_true, if_false, Bool.false_eq_true, l__law_same_0, pp, hli])
        case non.non => exact .inl (go rfl (by simp -implicitDefEqProofs only [x_var, y_var, x_con, x_glob, x_bin, x_neg, x_cmp, x_chain, x_isN, x_notN, x_and, x_and1, x_or, x_or1, x_not, x_ife, x_call, x_callP, x_bi, x_isi, x_listRg, x_ix, x_sl, x_tup, x_lst, x_comp, x_compIf, x_box, x_pop, x_popAt, x_append, x_nil, x_cons, x_seq, x_rng1, x_rng2, x_zip, x_asg, x_setix, x_aug, x_ex, x_if, x_for, x_while, x_ret, x_brk, x_cont, x_bnil, x_bcons, y_rt1, y_rtB, y_bin1, y_bin2, y_cmp1, y_cmp2, y_neg, y_isN, y_notN, y_andT, y_andF, y_orT, y_orF, y_not, y_ifT, y_ifF, y_chain1, y_chain2, y_chainT, y_chainF, y_chain3, y_cons1, y_cons2, y_call, y_callP, y_bi, y_isi, y_ix1, y_ix2, y_tup0, y_tup1, y_tup2, y_tup3, y_tup4, y_lst0, y_lst1, y_lst2, y_lst3, y_lc, y_box, y_pop, y_popAt1, y_popAt2, y_append1, y_append2, y_rtL, y_seq, y_seqT, y_seqL, y_rng21, y_zip1, y_zip2, y_zipT, y_zipL, y_rtE, y_asg, y_set1, y_set2, y_set3, y_aug, y_augA, y_augS, y_ex, y_ifST, y_ifSF, y_for, y_ret, y_nx, y_rt, y_bk, y_ct, y_fnR, y_fnN, y_nm, y_tp, y_tgn, y_tgc, y_tgk, v_add, v_sub, v_eqI, v_eqS, v_eqB, v_neI, v_neS, v_neB, v_lt, v_le, v_gt, v_ge, v_lenT, v_lenL, v_lenF, v_tupL, v_tupT, v_listL, v_listT, v_intI, v_intB, v_max, v_min, v_ixT, v_ixL, v_at0, v_at1, v_at2, y_lst4, y_lst5, y_lst6, y_lst7, y_tup5, y_tup6, y_sl1, y_sl1i, y_sl2, y_sl2i, y_sl3, v_slF, v_slL, v_slT, w_0, w_1, y_part, y_sl1v, y_sl1b, y_sl1n, y_sl2v, y_sl2b, y_sl2n, v_isTT, v_isTI, v_isTB, v_isTS, v_isIT, v_isII, v_isIB, v_isIS, v_isBT, v_isBI, v_isBB, v_isBS, v_isST, v_isSI, v_isSB, v_isSS, v_isN, x_rev, x_join, x_fmt, x_fstr, x_zipS, y_rev, y_join1, y_join2, y_fmt, y_fstr, y_rtS, y_zipS1, y_zipS2, v_revL, x_callF, y_callF, List.getElem?_cons_zero, List.getElem?_cons_succ, List.set_cons_zero, List.set_cons_succ, decide_true, decide_false, Int.reduceEq, Int.reduceLT, Int.reduceLE, decide_eq_true_eq, Bool.not_true, Bool.not_false, if_true, if_false, Bool.false_eq_true, l__law_same_0, pp, reduceCtorEq]))
        case bl.bl u v =>
          by_cases e : u = v
          · subst e
            exact .inl (go rfl (by simp -implicitDefEqProofs only [x_var, y_var, x_con, x_glob, x_bin, x_neg, x_cmp, x_chain, x_isN, x_notN, x_and, x_and1, x_or, x_or1, x_not, x_ife, x_call, x_callP, x_bi, x_isi, x_listRg, x_ix, x_sl, x_tup, x_lst, x_comp, x_compIf, x_box, x_pop, x_popAt, x_append, x_nil, x_cons, x_seq, x_rng1, x_rng2, x_zip, x_asg, x_setix, x_aug, x_ex, x_if, x_for, x_while, x_ret, x_brk, x_cont, x_bnil, x_bcons, y_rt1, y_rtB, y_bin1, y_bin2, y_cmp1, y_cmp2, y_neg, y_isN, y_notN, y_andT, y_andF, y_orT, y_orF, y_not, y_ifT, y_ifF, y_chain1, y_chain2, y_chainT, y_chainF, y_chain3, y_cons1, y_cons2, y_call, y_callP, y_bi, y_isi, y_ix1, y_ix2, y_tup0, y_tup1, y_tup2, y_tup3, y_tup4, y_lst0, y_lst1, y_lst2, y_lst3, y_lc, y_box, y_pop, y_popAt1, y_popAt2, y_append1, y_append2, y_rtL, y_seq, y_seqT, y_seqL, y_rng21, y_zip1, y_zip2, y_zipT, y_zipL, y_rtE, y_asg, y_set1, y_set2, y_set3, y_aug, y_augA, y_augS, y_ex, y_ifST, y_ifSF, y_for, y_ret, y_nx, y_rt, y_bk, y_ct, y_fnR, y_fnN, y_nm, y_tp, y_tgn, y_tgc, y_tgk, v_add, v_sub, v_eqI, v_eqS, v_eqB, v_neI, v_neS, v_neB, v_lt, v_le, v_gt, v_ge, v_lenT, v_lenL, v_lenF, v_tupL, v_tupT, v_listL, v_listT, v_intI, v_intB, v_max, v_min, v_ixT, v_ixL, v_at0, v_at1, v_at2, y_lst4, y_lst5, y_lst6, y_lst7, y_tup5, y_tup6, y_sl1, y_sl1i, y_sl2, y_sl2i, y_sl3, v_slF, v_slL, v_slT, w_0, w_1, y_part, y_sl1v, y_sl1b, y_sl1n, y_sl2v, y_sl2b, y_sl2n, v_isTT, v_isTI, v_isTB, v_isTS, v_isIT, v_isII, v_isIB, v_isIS, v_isBT, v_isBI, v_isBB, v_isBS, v_isST, v_isSI, v_isSB, v_isSS, v_isN, x_rev, x_join, x_fmt, x_fstr, x_zipS, y_rev, y_join1, y_join2, y_fmt, y_fstr, y_rtS, y_zipS1, y_zipS2, v_revL, x_callF, y_callF, List.getElem?_cons_zero, List.getElem?_cons_succ, List.set_cons_zero, List.set_cons_succ, decide_true, decide_false, Int.reduceEq, Int.reduceLT, Int.reduceLE, decide_eq_true_eq, Bool.not_true, Bool.not_false, if_true, if_false, Bool.false_eq_true, l__law_same_0, pp, bTT, bFF, Bool.not_true, Bool.not_false, reduceCtorEq, beq_self_eq_true]))
          · have e' : (u == v) = false := by simpa using e
            exact fin (fun q => e (by cases q; rfl)) (by simp -implicitDefEqProofs only [x_var, y_var, x_con, x_glob, x_bin, x_neg, x_cmp, x_chain, x_isN, x_notN, x_and, x_and1, x_or, x_or1, x_not, x_ife, x_call, x_callP, x_bi, x_isi, x_listRg, x_ix, x_sl, x_tup, x_lst, x_comp, x_compIf, x_box, x_pop, x_popAt, x_append, x_nil, x_cons, x_seq, x_rng1, x_rng2, x_zip, x_asg, x_setix, x_aug, x_ex, x_if, x_for, x_while, x_ret, x_brk, x_cont, x_bnil, x_bcons, y_rt1, y_rtB, y_bin1, y_bin2, y_cmp1, y_cmp2, y_neg, y_isN, y_notN, y_andT, y_andF, y_orT, y_orF, y_not, y_ifT, y_ifF, y_chain1, y_chain2, y_chainT, y_chainF, y_chain3, y_cons1, y_cons2, y_call, y_callP, y_bi, y_isi, y_ix1, y_ix2, y_tup0, y_tup1, y_tup2, y_tup3, y_tup4, y_lst0, y_lst1, y_lst2, y_lst3, y_lc, y_box, y_pop, y_popAt1, y_popAt2, y_append1, y_append2, y_rtL, y_seq, y_seqT, y_seqL, y_rng21, y_zip1, y_zip2, y_zipT, y_zipL, y_rtE, y_asg, y_set1, y_set2, y_set3, y_aug, y_augA, y_augS, y_ex, y_ifST, y_ifSF, y_for, y_ret, y_nx, y_rt, y_bk, y_ct, y_fnR, y_fnN, y_nm, y_tp, y_tgn, y_tgc, y_tgk, v_add, v_sub, v_eqI, v_eqS, v_eqB, v_neI, v_neS, v_neB, v_lt, v_le, v_gt, v_ge, v_lenT, v_lenL, v_lenF, v_tupL, v_tupT, v_listL, v_listT, v_intI, v_intB, v_max, v_min, v_ixT, v_ixL, v_at0, v_at1, v_at2, y_lst4, y_lst5, y_lst6, y_lst7, y_tup5, y_tup6, y_sl1, y_sl1i, y_sl2, y_sl2i, y_sl3, v_slF, v_slL, v_slT, w_0, w_1, y_part, y_sl1v, y_sl1b, y_sl1n, y_sl2v, y_sl2b, y_sl2n, v_isTT, v_isTI, v_isTB, v_isTS, v_isIT, v_isII, v_isIB, v_isIS, v_isBT, v_isBI, v_isBB, v_isBS, v_isST, v_isSI, v_isSB, v_isSS, v_isN, x_rev, x_join, x_fmt, x_fstr, x_zipS, y_rev, y_join1, y_join2, y_fmt, y_fstr, y_rtS, y_zipS1, y_zipS2, v_revL, x_callF, y_callF, List.getElem?_cons_zero, List.getElem?_cons_succ, List.set_cons_zero, List.set_cons_succ, decide_true, decide_false, Int.reduceEq, Int.reduceLT, Int.reduceLE, decide_eq_true_eq, Bool.not_true, Bool.not_false, if_true, if_false, Bool.false_eq_true, l__law_same_0, pp, bTT, bFF, Bool.not_true, Bool.not_false, reduceCtorEq, e'])
        case int.int u v =>
          by_cases e : u = v
          · subst e
            exact .inl (go rfl (by simp -implicitDefEqProofs only [x_var, y_var, x_con, x_glob, x_bin, x_neg, x_cmp, x_chain, x_isN, x_notN, x_and, x_and1, x_or, x_or1, x_not, x_ife, x_call, x_callP, x_bi, x_isi, x_listRg, x_ix, x_sl, x_tup, x_lst, x_comp, x_compIf, x_box, x_pop, x_popAt, x_append, x_nil, x_cons, x_seq, x_rng1, x_rng2, x_zip, x_asg, x_setix, x_aug, x_ex, x_if, x_for, x_while, x_ret, x_brk, x_cont, x_bnil, x_bcons, y_rt1, y_rtB, y_bin1, y_bin2, y_cmp1, y_cmp2, y_neg, y_isN, y_notN, y_andT, y_andF, y_orT, y_orF, y_not, y_ifT, y_ifF, y_chain1, y_chain2, y_chainT, y_chainF, y_chain3, y_cons1, y_cons2, y_call, y_callP, y_bi, y_isi, y_ix1, y_ix2, y_tup0, y_tup1, y_tup2, y_tup3, y_tup4, y_lst0, y_lst1, y_lst2, y_lst3, y_lc, y_box, y_pop, y_popAt1, y_popAt2, y_append1, y_append2, y_rtL, y_seq, y_seqT, y_seqL, y_rng21, y_zip1, y_zip2, y_zipT, y_zipL, y_rtE, y_asg, y_set1, y_set2, y_set3, y_aug, y_augA, y_augS, y_ex, y_ifST, y_ifSF, y_for, y_ret, y_nx, y_rt, y_bk, y_ct, y_fnR, y_fnN, y_nm, y_tp, y_tgn, y_tgc, y_tgk, v_add, v_sub, v_eqI, v_eqS, v_eqB, v_neI, v_neS, v_neB, v_lt, v_le, v_gt, v_ge, v_lenT, v_lenL, v_lenF, v_tupL, v_tupT, v_listL, v_listT, v_intI, v_intB, v_max, v_min, v_ixT, v_ixL, v_at0, v_at1, v_at2, y_lst4, y_lst5, y_lst6, y_lst7, y_tup5, y_tup6, y_sl1, y_sl1i, y_sl2, y_sl2i, y_sl3, v_slF, v_slL, v_slT, w_0, w_1, y_part, y_sl1v, y_sl1b, y_sl1n, y_sl2v, y_sl2b, y_sl2n, v_isTT, v_isTI, v_isTB, v_isTS, v_isIT, v_isII, v_isIB, v_isIS, v_isBT, v_isBI, v_isBB, v_isBS, v_isST, v_isSI, v_isSB, v_isSS, v_isN, x_rev, x_join, x_fmt, x_fstr, x_zipS, y_rev, y_join1, y_join2, y_fmt, y_fstr, y_rtS, y_zipS1, y_zipS2, v_revL, x_callF, y_callF, List.getElem?_cons_zero, List.getElem?_cons_succ, List.set_cons_zero, List.set_cons_succ, decide_true, decide_false, Int.reduceEq, Int.reduceLT, Int.reduceLE, decide_eq_true_eq, Bool.not_true, Bool.not_false, if_true, if_false, Bool.false_eq_true, l__law_same_0, pp, bTT, bFF, Bool.not_true, Bool.not_false, reduceCtorEq]))
          · exact fin (fun q => e (by cases q; rfl)) (by simp -implicitDefEqProofs only [x_var, y_var, x_con, x_glob, x_bin, x_neg, x_cmp, x_chain, x_isN, x_notN, x_and, x_and1, x_or, x_or1, x_not, x_ife, x_call, x_callP, x_bi, x_isi, x_listRg, x_ix, x_sl, x_tup, x_lst, x_comp, x_compIf, x_box, x_pop, x_popAt, x_append, x_nil, x_cons, x_seq, x_rng1, x_rng2, x_zip, x_asg, x_setix, x_aug, x_ex, x_if, x_for, x_while, x_ret, x_brk, x_cont, x_bnil, x_bcons, y_rt1, y_rtB, y_bin1, y_bin2, y_cmp1, y_cmp2, y_neg, y_isN, y_notN, y_andT, y_andF, y_orT, y_orF, y_not, y_ifT, y_ifF, y_chain1, y_chain2, y_chainT, y_chainF, y_chain3, y_cons1, y_cons2, y_call, y_callP, y_bi, y_isi, y_ix1, y_ix2, y_tup0, y_tup1, y_tup2, y_tup3, y_tup4, y_lst0, y_lst1, y_lst2, y_lst3, y_lc, y_box, y_pop, y_popAt1, y_popAt2, y_append1, y_append2, y_rtL, y_seq, y_seqT, y_seqL, y_rng21, y_zip1, y_zip2, y_zipT, y_zipL, y_rtE, y_asg, y_set1, y_set2, y_set3, y_aug, y_augA, y_augS, y_ex, y_ifST, y_ifSF, y_for, y_ret, y_nx, y_rt, y_bk, y_ct, y_fnR, y_fnN, y_nm, y_tp, y_tgn, y_tgc, y_tgk, v_add, v_sub, v_eqI, v_eqS, v_eqB, v_neI, v_neS, v_neB, v_lt, v_le, v_gt, v_ge, v_lenT, v_lenL, v_lenF, v_tupL, v_tupT, v_listL, v_listT, v_intI, v_intB, v_max, v_min, v_ixT, v_ixL, v_at0, v_at1, v_at2, y_lst4, y_lst5, y_lst6, y_lst7, y_tup5, y_tup6, y_sl1, y_sl1i, y_sl2, y_sl2i, y_sl3, v_slF, v_slL, v_slT, w_0, w_1, y_part, y_sl1v, y_sl1b, y_sl1n, y_sl2v, y_sl2b, y_sl2n, v_isTT, v_isTI, v_isTB, v_isTS, v_isIT, v_isII, v_isIB, v_isIS, v_isBT, v_isBI, v_isBB, v_isBS, v_isST, v_isSI, v_isSB, v_isSS, v_isN, x_rev, x_join, x_fmt, x_fstr, x_zipS, y_rev, y_join1, y_join2, y_fmt, y_fstr, y_rtS, y_zipS1, y_zipS2, v_revL, x_callF, y_callF, List.getElem?_cons_zero, List.getElem?_cons_succ, List.set_cons_zero, List.set_cons_succ, decide_true, decide_false, Int.reduceEq, Int.reduceLT, Int.reduceLE, decide_eq_true_eq, Bool.not_true, Bool.not_false, if_true, if_false, Bool.false_eq_true, l__law_same_0, pp, bTT, bFF, Bool.not_true, Bool.not_false, reduceCtorEq, e])
        case str.str u v =>
          by_cases e : u = v
          · subst e
            exact .inl (go rfl (by simp -implicitDefEqProofs only [x_var, y_var, x_con, x_glob, x_bin, x_neg, x_cmp, x_chain, x_isN, x_notN, x_and, x_and1, x_or, x_or1, x_not, x_ife, x_call, x_callP, x_bi, x_isi, x_listRg, x_ix, x_sl, x_tup, x_lst, x_comp, x_compIf, x_box, x_pop, x_popAt, x_append, x_nil, x_cons, x_seq, x_rng1, x_rng2, x_zip, x_asg, x_setix, x_aug, x_ex, x_if, x_for, x_while, x_ret, x_brk, x_cont, x_bnil, x_bcons, y_rt1, y_rtB, y_bin1, y_bin2, y_cmp1, y_cmp2, y_neg, y_isN, y_notN, y_andT, y_andF, y_orT, y_orF, y_not, y_ifT, y_ifF, y_chain1, y_chain2, y_chainT, y_chainF, y_chain3, y_cons1, y_cons2, y_call, y_callP, y_bi, y_isi, y_ix1, y_ix2, y_tup0, y_tup1, y_tup2, y_tup3, y_tup4, y_lst0, y_lst1, y_lst2, y_lst3, y_lc, y_box, y_pop, y_popAt1, y_popAt2, y_append1, y_append2, y_rtL, y_seq, y_seqT, y_seqL, y_rng21, y_zip1, y_zip2, y_zipT, y_zipL, y_rtE, y_asg, y_set1, y_set2, y_set3, y_aug, y_augA, y_augS, y_ex, y_ifST, y_ifSF, y_for, y_ret, y_nx, y_rt, y_bk, y_ct, y_fnR, y_fnN, y_nm, y_tp, y_tgn, y_tgc, y_tgk, v_add, v_sub, v_eqI, v_eqS, v_eqB, v_neI, v_neS, v_neB, v_lt, v_le, v_gt, v_ge, v_lenT, v_lenL, v_lenF, v_tupL, v_tupT, v_listL, v_listT, v_intI, v_intB, v_max, v_min, v_ixT, v_ixL, v_at0, v_at1, v_at2, y_lst4, y_lst5, y_lst6, y_lst7, y_tup5, y_tup6, y_sl1, y_sl1i, y_sl2, y_sl2i, y_sl3, v_slF, v_slL, v_slT, w_0, w_1, y_part, y_sl1v, y_sl1b, y_sl1n, y_sl2v, y_sl2b, y_sl2n, v_isTT, v_isTI, v_isTB, v_isTS, v_isIT, v_isII, v_isIB, v_isIS, v_isBT, v_isBI, v_isBB, v_isBS, v_isST, v_isSI, v_isSB, v_isSS, v_isN, x_rev, x_join, x_fmt, x_fstr, x_zipS, y_rev, y_join1, y_join2, y_fmt, y_fstr, y_rtS, y_zipS1, y_zipS2, v_revL, x_callF, y_callF, List.getElem?_cons_zero, List.getElem?_cons_succ, List.set_cons_zero, List.set_cons_succ, decide_true, decide_false, Int.reduceEq, Int.reduceLT, Int.reduceLE, decide_eq_true_eq, Bool.not_true, Bool.not_false, if_true, if_false, Bool.false_eq_true, l__law_same_0, pp, bTT, bFF, Bool.not_true, Bool.not_false, reduceCtorEq]))
          · exact fin (fun q => e (by cases q; rfl)) (by simp -implicitDefEqProofs only [x_var, y_var, x_con, x_glob, x_bin, x_neg, x_cmp, x_chain, x_isN, x_notN, x_and, x_and1, x_or, x_or1, x_not, x_ife, x_call, x_callP, x_bi, x_isi, x_listRg, x_ix, x_sl, x_tup, x_lst, x_comp, x_compIf, x_box, x_pop, x_popAt, x_append, x_nil, x_cons, x_seq, x_rng1, x_rng2, x_zip, x_asg, x_setix, x_aug, x_ex, x_if, x_for, x_while, x_ret, x_brk, x_cont, x_bnil, x_bcons, y_rt1, y_rtB, y_bin1, y_bin2, y_cmp1, y_cmp2, y_neg, y_isN, y_notN, y_andT, y_andF, y_orT, y_orF, y_not, y_ifT, y_ifF, y_chain1, y_chain2, y_chainT, y_chainF, y_chain3, y_cons1, y_cons2, y_call, y_callP, y_bi, y_isi, y_ix1, y_ix2, y_tup0, y_tup1, y_tup2, y_tup3, y_tup4, y_lst0, y_lst1, y_lst2, y_lst3, y_lc, y_box, y_pop, y_popAt1, y_popAt2, y_append1, y_append2, y_rtL, y_seq, y_seqT, y_seqL, y_rng21, y_zip1, y_zip2, y_zipT, y_zipL, y_rtE, y_asg, y_set1, y_set2, y_set3, y_aug, y_augA, y_augS, y_ex, y_ifST, y_ifSF, y_for, y_ret, y_nx, y_rt, y_bk, y_ct, y_fnR, y_fnN, y_nm, y_tp, y_tgn, y_tgc, y_tgk, v_add, v_sub, v_eqI, v_eqS, v_eqB, v_neI, v_neS, v_neB, v_lt, v_le, v_gt, v_ge, v_lenT, v_lenL, v_lenF, v_tupL, v_tupT, v_listL, v_listT, v_intI, v_intB, v_max, v_min, v_ixT, v_ixL, v_at0, v_at1, v_at2, y_lst4, y_lst5, y_lst6, y_lst7, y_tup5, y_tup6, y_sl1, y_sl1i, y_sl2, y_sl2i, y_sl3, v_slF, v_slL, v_slT, w_0, w_1, y_part, y_sl1v, y_sl1b, y_sl1n, y_sl2v, y_sl2b, y_sl2n, v_isTT, v_isTI, v_isTB, v_isTS, v_isIT, v_isII, v_isIB, v_isIS, v_isBT, v_isBI, v_isBB, v_isBS, v_isST, v_isSI, v_isSB, v_isSS, v_isN, x_rev, x_join, x_fmt, x_fstr, x_zipS, y_rev, y_join1, y_join2, y_fmt, y_fstr, y_rtS, y_zipS1, y_zipS2, v_revL, x_callF, y_callF, List.getElem?_cons_zero, List.getElem?_cons_succ, List.set_cons_zero, List.set_cons_succ, decide_true, decide_false, Int.reduceEq, Int.reduceLT, Int.reduceLE, decide_eq_true_eq, Bool.not_true, Bool.not_false, if_true, if_false, Bool.false_eq_true, l__law_same_0, pp, bTT, bFF, Bool.not_true, Bool.not_false, reduceCtorEq, e])
        all_goals first
          | (exfalso; have q := hokq.1; cases n <;> simp [okN] at q <;> done)
          | (exfalso; have q := hokq.2; cases n <;> simp [okN] at q <;> done)
          | exact fin (by simp) (by simp -implicitDefEqProofs only [x_var, y_var, x_con, x_glob, x_bin, x_neg, x_cmp, x_chain, x_isN, x_notN, x_and, x_and1, x_or, x_or1, x_not, x_ife, x_call, x_callP, x_bi, x_isi, x_listRg, x_ix, x_sl, x_tup, x_lst, x_comp, x_compIf, x_box, x_pop, x_popAt, x_append, x_nil, x_cons, x_seq, x_rng1, x_rng2, x_zip, x_asg, x_setix, x_aug, x_ex, x_if, x_for, x_while, x_ret, x_brk, x_cont, x_bnil, x_bcons, y_rt1, y_rtB, y_bin1, y_bin2, y_cmp1, y_cmp2, y_neg, y_isN, y_notN, y_andT, y_andF, y_orT, y_orF, y_not, y_ifT, y_ifF, y_chain1, y_chain2, y_chainT, y_chainF, y_chain3, y_cons1, y_cons2, y_call, y_callP, y_bi, y_isi, y_ix1, y_ix2, y_tup0, y_tup1, y_tup2, y_tup3, y_tup4, y_lst0, y_lst1, y_lst2, y_lst3, y_lc, y_box, y_pop, y_popAt1, y_popAt2, y_append1, y_append2, y_rtL, y_seq, y_seqT, y_seqL, y_rng21, y_zip1, y_zip2, y_zipT, y_zipL, y_rtE, y_asg, y_set1, y_set2, y_set3, y_aug, y_augA, y_augS, y_ex, y_ifST, y_ifSF, y_for, y_ret, y_nx, y_rt, y_bk, y_ct, y_fnR, y_fnN, y_nm, y_tp, y_tgn, y_tgc, y_tgk, v_add, v_sub, v_eqI, v_eqS, v_eqB, v_neI, v_neS, v_neB, v_lt, v_le, v_gt, v_ge, v_lenT, v_lenL, v_lenF, v_tupL, v_tupT, v_listL, v_listT, v_intI, v_intB, v_max, v_min, v_ixT, v_ixL, v_at0, v_at1, v_at2, y_lst4, y_lst5, y_lst6, y_lst7, y_tup5, y_tup6, y_sl1, y_sl1i, y_sl2, y_sl2i, y_sl3, v_slF, v_slL, v_slT, w_0, w_1, y_part, y_sl1v, y_sl1b, y_sl1n, y_sl2v, y_sl2b, y_sl2n, v_isTT, v_isTI, v_isTB, v_isTS, v_isIT, v_isII, v_isIB, v_isIS, v_isBT, v_isBI, v_isBB, v_isBS, v_isST, v_isSI, v_isSB, v_isSS, v_isN, x_rev, x_join, x_fmt, x_fstr, x_zipS, y_rev, y_join1, y_join2, y_fmt, y_fstr, y_rtS, y_zipS1, y_zipS2, v_revL, x_callF, y_callF, List.getElem?_cons_zero, List.getElem?_cons_succ, List.set_cons_zero, List.set_cons_succ, decide_true, decide_false, Int.reduceEq, Int.reduceLT, Int.reduceLE, decide_eq_true_eq, Bool.not_true, Bool.not_false, if_true, if_false, Bool.false_eq_true, l__law_same_0, pp, bTT, bFF, bTF, bFT, Bool.not_true, Bool.not_false, reduceCtorEq]))
    (szp [(x, y)]) turns [some x, some y, some (.ref m.length), none, none, none] (m ++ [.lst [.tup [x, y]]]) ⟨[.lst [.tup [x, y]]], m.length, [(x, y)], none, none, rfl, rfl, Nat.le_refl _, by simp [pr], by simpa using ⟨hx, hy⟩, by simp, rfl, by simpa [szp] using hs⟩ (by simp only [szp, List.map_cons, List.map_nil, List.sum_cons, List.sum_nil, turns]; omega)
  rcases W with ⟨e, env, g, h⟩ | ⟨e, env, g, h⟩
  · refine ⟨g, ?_⟩
    subst e
    simp -implicitDefEqProofs only [x_var, y_var, x_con, x_glob, x_bin, x_neg, x_cmp, x_chain, x_isN, x_notN, x_and, x_and1, x_or, x_or1, x_not, x_ife, x_call, x_callP, x_bi, x_isi, x_listRg, x_ix, x_sl, x_tup, x_lst, x_comp, x_compIf, x_box, x_pop, x_popAt, x_append, x_nil, x_cons, x_seq, x_rng1, x_rng2, x_zip, x_asg, x_setix, x_aug, x_ex, x_if, x_for, x_while, x_ret, x_brk, x_cont, x_bnil, x_bcons, y_rt1, y_rtB, y_bin1, y_bin2, y_cmp1, y_cmp2, y_neg, y_isN, y_notN, y_andT, y_andF, y_orT, y_orF, y_not, y_ifT, y_ifF, y_chain1, y_chain2, y_chainT, y_chainF, y_chain3, y_cons1, y_cons2, y_call, y_callP, y_bi, y_isi, y_ix1, y_ix2, y_tup0, y_tup1, y_tup2, y_tup3, y_tup4, y_lst0, y_lst1, y_lst2, y_lst3, y_lc, y_box, y_pop, y_popAt1, y_popAt2, y_append1, y_append2, y_rtL, y_seq, y_seqT, y_seqL, y_rng21, y_zip1, y_zip2, y_zipT, y_zipL, y_rtE, y_asg, y_set1, y_set2, y_set3, y_aug, y_augA, y_augS, y_ex, y_ifST, y_ifSF, y_for, y_ret, y_nx, y_rt, y_bk, y_ct, y_fnR, y_fnN, y_nm, y_tp, y_tgn, y_tgc, y_tgk, v_add, v_sub, v_eqI, v_eqS, v_eqB, v_neI, v_neS, v_neB, v_lt, v_le, v_gt, v_ge, v_lenT, v_lenL, v_lenF, v_tupL, v_tupT, v_listL, v_listT, v_intI, v_intB, v_max, v_min, v_ixT, v_ixL, v_at0, v_at1, v_at2, y_lst4, y_lst5, y_lst6, y_lst7, y_tup5, y_tup6, y_sl1, y_sl1i, y_sl2, y_sl2i, y_sl3, v_slF, v_slL, v_slT, w_0, w_1, y_part, y_sl1v, y_sl1b, y_sl1n, y_sl2v, y_sl2b, y_sl2n, v_isTT, v_isTI, v_isTB, v_isTS, v_isIT, v_isII, v_isIB, v_isIS, v_isBT, v_isBI, v_isBB, v_isBS, v_isST, v_isSI, v_isSB, v_isSS, v_isN, x_rev, x_join, x_fmt, x_fstr, x_zipS, y_rev, y_join1, y_join2, y_fmt, y_fstr, y_rtS, y_zipS1, y_zipS2, v_revL, x_callF, y_callF, List.getElem?_cons_zero, List.getElem?_cons_succ, List.set_cons_zero, List.set_cons_succ, decide_true, decide_false, Int.reduceEq, Int.reduceLT, Int.reduceLE, decide_eq_true_eq, Bool.not_true, Bool.not_false, if_true, if_false, Bool.false_eq_true, b__law_same, x_while, h]
  · refine ⟨g, ?_⟩
    simp -implicitDefEqProofs only [x_var, y_var, x_con, x_glob, x_bin, x_neg, x_cmp, x_chain, x_isN, x_notN, x_and, x_and1, x_or, x_or1, x_not, x_ife, x_call, x_callP, x_bi, x_isi, x_listRg, x_ix, x_sl, x_tup, x_lst, x_comp, x_compIf, x_box, x_pop, x_popAt, x_append, x_nil, x_cons, x_seq, x_rng1, x_rng2, x_zip, x_asg, x_setix, x_aug, x_ex, x_if, x_for, x_while, x_ret, x_brk, x_cont, x_bnil, x_bcons, y_rt1, y_rtB, y_bin1, y_bin2, y_cmp1, y_cmp2, y_neg, y_isN, y_notN, y_andT, y_andF, y_orT, y_orF, y_not, y_ifT, y_ifF, y_chain1, y_chain2, y_chainT, y_chainF, y_chain3, y_cons1, y_cons2, y_call, y_callP, y_bi, y_isi, y_ix1, y_ix2, y_tup0, y_tup1, y_tup2, y_tup3, y_tup4, y_lst0, y_lst1, y_lst2, y_lst3, y_lc, y_box, y_pop, y_popAt1, y_popAt2, y_append1, y_append2, y_rtL, y_seq, y_seqT, y_seqL, y_rng21, y_zip1, y_zip2, y_zipT, y_zipL, y_rtE, y_asg, y_set1, y_set2, y_set3, y_aug, y_augA, y_augS, y_ex, y_ifST, y_ifSF, y_for, y_ret, y_nx, y_rt, y_bk, y_ct, y_fnR, y_fnN, y_nm, y_tp, y_tgn, y_tgc, y_tgk, v_add, v_sub, v_eqI, v_eqS, v_eqB, v_neI, v_neS, v_neB, v_lt, v_le, v_gt, v_ge, v_lenT, v_lenL, v_lenF, v_tupL, v_tupT, v_listL, v_listT, v_intI, v_intB, v_max, v_min, v_ixT, v_ixL, v_at0, v_at1, v_at2, y_lst4, y_lst5, y_lst6, y_lst7, y_tup5, y_tup6, y_sl1, y_sl1i, y_sl2, y_sl2i, y_sl3, v_slF, v_slL, v_slT, w_0, w_1, y_part, y_sl1v, y_sl1b, y_sl1n, y_sl2v, y_sl2b, y_sl2n, v_isTT, v_isTI, v_isTB, v_isTS, v_isIT, v_isII, v_isIB, v_isIS, v_isBT, v_isBI, v_isBB, v_isBS, v_isST, v_isSI, v_isSB, v_isSS, v_isN, x_rev, x_join, x_fmt, x_fstr, x_zipS, y_rev, y_join1, y_join2, y_fmt, y_fstr, y_rtS, y_zipS1, y_zipS2, v_revL, x_callF, y_callF, List.getElem?_cons_zero, List.getElem?_cons_succ, List.set_cons_zero, List.set_cons_succ, decide_true, decide_false, Int.reduceEq, Int.reduceLT, Int.reduceLE, decide_eq_true_eq, Bool.not_true, Bool.not_false, if_true, if_false, Bool.false_eq_true, b__law_same, x_while, h, e]
end Lw

namespace Lw
open PySem Pv
/-! the parts of a kind, with their places -/
def at2 (l : List (Str × Kd)) (i : Nat) : Kd := ((l[i]?).map (·.2)).getD .truth
def atk (l : List Kd) (i : Nat) : Kd := (l[i]?).getD .truth
def subs : Kd → List (List Nat × Kd)
  | .rcd _ ps => (List.range ps.ls.length).map fun i => ([1, i, 1], at2 ps.ls i)
  | .row _ k => [([2], k)]
  | .wrap _ k => [([1], k)]
  | .use _ fs => (List.range fs.ls.length).map fun i => ([2, i], atk fs.ls i)
  | _ => []
abbrev qD (f : List Nat × Kd) : D := .tup [.tup (f.1.map nD), toK f.2]
theorem at2_get {l : List (Str × Kd)} {i : Nat} (h : i < l.length) : at2 l i = l[i].2 := by simp [at2, h]
theorem atk_get {l : List Kd} {i : Nat} (h : i < l.length) : atk l i = l[i] := by simp [atk, h]
theorem lz_mem {l : List (Str × Kd)} {p : Str × Kd} (h : p ∈ l) : kz p.2 ≤ lz l := by
  induction l with
  | nil => cases h
  | cons q r ih =>
    simp only [lz, List.map_cons, List.sum_cons]
    rcases List.mem_cons.mp h with rfl | h
    · omega
    · have := ih h; simp only [lz] at this; omega
theorem lzk_mem {l : List Kd} {p : Kd} (h : p ∈ l) : kz p ≤ lzk l := by
  induction l with
  | nil => cases h
  | cons q r ih =>
    simp only [lzk, List.map_cons, List.sum_cons]
    rcases List.mem_cons.mp h with rfl | h
    · omega
    · have := ih h; simp only [lzk] at this; omega
/-- one part changed -/
theorem sub_step {h : Kd} (hw : wf h = true) {q : List Nat} {b : Kd} (hm : (q, b) ∈ subs h) : getP q (toK h) = some (toK b) ∧ wf b = true ∧ q.length ≤ 3 ∧ ∀ b', wf b' = true → ∃ h', setP q (toK h) (toK b') = toK h' ∧ wf h' = true ∧ kz h' + kz b = kz h + kz b' := by
  match h, hw, hm with
  | .rcd v ps, hw, hm =>
    have hw : wfp ps = true := by simpa [wf] using hw
    obtain ⟨i, hi, e⟩ := List.mem_map.mp hm
    have hi := List.mem_range.mp hi
    cases e
    rw [at2_get hi]
    have hwi := ls_wf hw ps.ls[i] (List.getElem_mem hi)
    refine ⟨?_, hwi.2, by simp, ?_⟩
    · simp [getP, toK, ls_psD, hi]
    · intro b' hb'
      refine ⟨.rcd v (Ps.of (ps.ls.set i (ps.ls[i].1, b'))), ?_, ?_, ?_⟩
      · have e1 : ((psD ps).getD i .non) = pk ps.ls[i] := by rw [ls_psD]; simp [hi]
        simp only [toK, setP, List.getD_cons_succ, List.getD_cons_zero, e1, List.set_cons_succ, List.set_cons_zero]
        rw [of_psD, List.map_set, ls_psD]
      · simp only [wf]
        refine of_wfp fun p hp => ?_
        rcases List.mem_or_eq_of_mem_set hp with hp | rfl
        · exact ls_wf hw p hp
        · exact ⟨hwi.1, hb'⟩
      · have := lz_set (q := (ps.ls[i].1, b')) hi
        show 1 + pz (Ps.of _) + _ = 1 + pz ps + _
        rw [pz_of, pz_ls]
        have this : lz (ps.ls.set i (ps.ls[i].1, b')) + kz ps.ls[i].2 = lz ps.ls + kz b' := this
        omega
  | .row n k, hw, hm =>
    simp only [wf, Bool.and_eq_true] at hw
    simp only [subs, List.mem_singleton, Prod.mk.injEq] at hm
    obtain ⟨rfl, rfl⟩ := hm
    refine ⟨by simp [getP, toK], hw.2, by simp, fun b' hb' => ⟨.row n b', by simp [setP, toK], ?_, ?_⟩⟩
    · simp only [wf, hw.1, hb', Bool.and_self]
    · simp only [kz]; omega
  | .wrap c k, hw, hm =>
    simp only [subs, List.mem_singleton, Prod.mk.injEq] at hm
    obtain ⟨rfl, rfl⟩ := hm
    refine ⟨by simp [getP, toK], hw, by simp, fun b' hb' => ⟨.wrap c b', by simp [setP, toK], hb', ?_⟩⟩
    simp only [kz]; omega
  | .use s fs, hw, hm =>
    simp only [wf, Bool.and_eq_true] at hw
    obtain ⟨i, hi, e⟩ := List.mem_map.mp hm
    have hi := List.mem_range.mp hi
    cases e
    rw [atk_get hi]
    refine ⟨?_, ls_wfk hw.2 _ (List.getElem_mem hi), by simp, ?_⟩
    · simp [getP, toK, ls_ksD, hi]
    · intro b' hb'
      refine ⟨.use s (Ks.of (fs.ls.set i b')), ?_, ?_, ?_⟩
      · simp only [toK, setP, List.getD_cons_succ, List.getD_cons_zero, List.set_cons_succ, List.set_cons_zero]
        rw [of_ksD, List.map_set, ls_ksD]
      · simp only [wf, hw.1, Bool.true_and]
        refine of_wfk fun p hp => ?_
        rcases List.mem_or_eq_of_mem_set hp with hp | rfl
        · exact ls_wfk hw.2 p hp
        · exact hb'
      · have := lzk_set (q := b') hi
        show 1 + fz (Ks.of _) + _ = 1 + fz fs + _
        rw [fz_of, fz_ls]
        omega
inductive At (k : Kd) : List Nat → Kd → Prop
  | top : At k [] k
  | sub {p q : List Nat} {h b : Kd} (a : At k p h) (m : (q, b) ∈ subs h) : At k (p ++ q) b
theorem At.ok {k : Kd} (hk : wf k = true) {p : List Nat} {h : Kd} (a : At k p h) : getP p (toK k) = some (toK h) ∧ wf h = true ∧ ∀ b', wf b' = true → ∃ k', setP p (toK k) (toK b') = toK k' ∧ wf k' = true ∧ kz k' + kz h = kz k + kz b' := by
  induction a with
  | top => exact ⟨rfl, hk, fun b' hb' => ⟨b', rfl, hb', by omega⟩⟩
  | @sub p q h b a m ih =>
    obtain ⟨i1, i2, i3⟩ := ih
    obtain ⟨j1, j2, _, j3⟩ := sub_step i2 m
    refine ⟨getP_app i1 j1, j2, fun b' hb' => ?_⟩
    obtain ⟨h2, x1, x2, x3⟩ := j3 b' hb'
    obtain ⟨k2, y1, y2, y3⟩ := i3 h2 x2
    exact ⟨k2, by rw [setP_app i1, x1, y1], y2, by omega⟩
theorem szl {l : List (Str × Kd)} : l.length ≤ lz l := by
  induction l with
  | nil => simp
  | cons p r ih => have := kz_pos p.2; simp only [lz, List.map_cons, List.sum_cons, List.length_cons] at ih ⊢; omega
theorem szlk {l : List Kd} : l.length ≤ lzk l := by
  induction l with
  | nil => simp
  | cons p r ih => have := kz_pos p; simp only [lzk, List.map_cons, List.sum_cons, List.length_cons] at ih ⊢; omega
theorem inner_ok {G : List D} {n : Nat} {k : Kd} (hz : kz k ≤ 1000) {m : M} : run tab G (n + 1) 9 [toK k] m = some (.lst ((subs k).map qD), m) := by
  rw [run__law_inner, r__law_inner]
  have rg : ∀ {c : Nat} {d : D}, d ∈ rangeD 0 c → ∃ i : Nat, i < c ∧ d = .int i := by
    intro c d hd
    simp only [rangeD] at hd
    obtain ⟨i, hi, rfl⟩ := List.mem_map.mp hd
    exact ⟨i, List.mem_range.mp hi, by simp⟩
  match k, hz with
  | .truth, _ => simp -implicitDefEqProofs only [x_var, y_var, x_con, x_glob, x_bin, x_neg, x_cmp, x_chain, x_isN, x_notN, x_and, x_and1, x_or, x_or1, x_not, x_ife, x_call, x_callP, x_bi, x_isi, x_listRg, x_ix, x_sl, x_tup, x_lst, x_comp, x_compIf, x_box, x_pop, x_popAt, x_append, x_nil, x_cons, x_seq, x_rng1, x_rng2, x_zip, x_asg, x_setix, x_aug, x_ex, x_if, x_for, x_while, x_ret, x_brk, x_cont, x_bnil, x_bcons, y_rt1, y_rtB, y_bin1, y_bin2, y_cmp1, y_cmp2, y_neg, y_isN, y_notN, y_andT, y_andF, y_orT, y_orF, y_not, y_ifT, y_ifF, y_chain1, y_chain2, y_chainT, y_chainF, y_chain3, y_cons1, y_cons2, y_call, y_callP, y_bi, y_isi, y_ix1, y_ix2, y_tup0, y_tup1, y_tup2, y_tup3, y_tup4, y_lst0, y_lst1, y_lst2, y_lst3, y_lc, y_box, y_pop, y_popAt1, y_popAt2, y_append1, y_append2, y_rtL, y_seq, y_seqT, y_seqL, y_rng21, y_zip1, y_zip2, y_zipT, y_zipL, y_rtE, y_asg, y_set1, y_set2, y_set3, y_aug, y_augA, y_augS, y_ex, y_ifST, y_ifSF, y_for, y_ret, y_nx, y_rt, y_bk, y_ct, y_fnR, y_fnN, y_nm, y_tp, y_tgn, y_tgc, y_tgk, v_add, v_sub, v_eqI, v_eqS, v_eqB, v_neI, v_neS, v_neB, v_lt, v_le, v_gt, v_ge, v_lenT, v_lenL, v_lenF, v_tupL, v_tupT, v_listL, v_listT, v_intI, v_intB, v_max, v_min, v_ixT, v_ixL, v_at0, v_at1, v_at2, y_lst4, y_lst5, y_lst6, y_lst7, y_tup5, y_tup6, y_sl1, y_sl1i, y_sl2, y_sl2i, y_sl3, v_slF, v_slL, v_slT, w_0, w_1, y_part, y_sl1v, y_sl1b, y_sl1n, y_sl2v, y_sl2b, y_sl2n, v_isTT, v_isTI, v_isTB, v_isTS, v_isIT, v_isII, v_isIB, v_isIS, v_isBT, v_isBI, v_isBB, v_isBS, v_isST, v_isSI, v_isSB, v_isSS, v_isN, x_rev, x_join, x_fmt, x_fstr, x_zipS, y_rev, y_join1, y_join2, y_fmt, y_fstr, y_rtS, y_zipS1, y_zipS2, v_revL, x_callF, y_callF, List.getElem?_cons_zero, List.getElem?_cons_succ, List.set_cons_zero, List.set_cons_succ, decide_true, decide_false, Int.reduceEq, Int.reduceLT, Int.reduceLE, decide_eq_true_eq, Bool.not_true, Bool.not_false, if_true, if_false, Bool.false_eq_true, b__law_inner, toK, ofs_inj, String.reduceEq, subs, List.map_nil]
  | .num i b, _ => cases i <;> simp -implicitDefEqProofs only [x_var, y_var, x_con, x_glob, x_bin, x_neg, x_cmp, x_chain, x_isN, x_notN, x_and, x_and1, x_or, x_or1, x_not, x_ife, x_call, x_callP, x_bi, x_isi, x_listRg, x_ix, x_sl, x_tup, x_lst, x_comp, x_compIf, x_box, x_pop, x_popAt, x_append, x_nil, x_cons, x_seq, x_rng1, x_rng2, x_zip, x_asg, x_setix, x_aug, x_ex, x_if, x_for, x_while, x_ret, x_brk, x_cont, x_bnil, x_bcons, y_rt1, y_rtB, y_bin1, y_bin2, y_cmp1, y_cmp2, y_neg, y_isN, y_notN, y_andT, y_andF, y_orT, y_orF, y_not, y_ifT, y_ifF, y_chain1, y_chain2, y_chainT, y_chainF, y_chain3, y_cons1, y_cons2, y_call, y_callP, y_bi, y_isi, y_ix1, y_ix2, y_tup0, y_tup1, y_tup2, y_tup3, y_tup4, y_lst0, y_lst1, y_lst2, y_lst3, y_lc, y_box, y_pop, y_popAt1, y_popAt2, y_append1, y_append2, y_rtL, y_seq, y_seqT, y_seqL, y_rng21, y_zip1, y_zip2, y_zipT, y_zipL, y_rtE, y_asg, y_set1, y_set2, y_set3, y_aug, y_augA, y_augS, y_ex, y_ifST, y_ifSF, y_for, y_ret, y_nx, y_rt, y_bk, y_ct, y_fnR, y_fnN, y_nm, y_tp, y_tgn, y_tgc, y_tgk, v_add, v_sub, v_eqI, v_eqS, v_eqB, v_neI, v_neS, v_neB, v_lt, v_le, v_gt, v_ge, v_lenT, v_lenL, v_lenF, v_tupL, v_tupT, v_listL, v_listT, v_intI, v_intB, v_max, v_min, v_ixT, v_ixL, v_at0, v_at1, v_at2, y_lst4, y_lst5, y_lst6, y_lst7, y_tup5, y_tup6, y_sl1, y_sl1i, y_sl2, y_sl2i, y_sl3, v_slF, v_slL, v_slT, w_0, w_1, y_part, y_sl1v, y_sl1b, y_sl1n, y_sl2v, y_sl2b, y_sl2n, v_isTT, v_isTI, v_isTB, v_isTS, v_isIT, v_isII, v_isIB, v_isIS, v_isBT, v_isBI, v_isBB, v_isBS, v_isST, v_isSI, v_isSB, v_isSS, v_isN, x_rev, x_join, x_fmt, x_fstr, x_zipS, y_rev, y_join1, y_join2, y_fmt, y_fstr, y_rtS, y_zipS1, y_zipS2, v_revL, x_callF, y_callF, List.getElem?_cons_zero, List.getElem?_cons_succ, List.set_cons_zero, List.set_cons_succ, decide_true, decide_false, Int.reduceEq, Int.reduceLT, Int.reduceLE, decide_eq_true_eq, Bool.not_true, Bool.not_false, if_true, if_false, Bool.false_eq_true, b__law_inner, toK, wNum_t, wNum_f, ofs_inj, String.reduceEq, subs, List.map_nil]
  | .hole s, _ => simp -implicitDefEqProofs only [x_var, y_var, x_con, x_glob, x_bin, x_neg, x_cmp, x_chain, x_isN, x_notN, x_and, x_and1, x_or, x_or1, x_not, x_ife, x_call, x_callP, x_bi, x_isi, x_listRg, x_ix, x_sl, x_tup, x_lst, x_comp, x_compIf, x_box, x_pop, x_popAt, x_append, x_nil, x_cons, x_seq, x_rng1, x_rng2, x_zip, x_asg, x_setix, x_aug, x_ex, x_if, x_for, x_while, x_ret, x_brk, x_cont, x_bnil, x_bcons, y_rt1, y_rtB, y_bin1, y_bin2, y_cmp1, y_cmp2, y_neg, y_isN, y_notN, y_andT, y_andF, y_orT, y_orF, y_not, y_ifT, y_ifF, y_chain1, y_chain2, y_chainT, y_chainF, y_chain3, y_cons1, y_cons2, y_call, y_callP, y_bi, y_isi, y_ix1, y_ix2, y_tup0, y_tup1, y_tup2, y_tup3, y_tup4, y_lst0, y_lst1, y_lst2, y_lst3, y_lc, y_box, y_pop, y_popAt1, y_popAt2, y_append1, y_append2, y_rtL, y_seq, y_seqT, y_seqL, y_rng21, y_zip1, y_zip2, y_zipT, y_zipL, y_rtE, y_asg, y_set1, y_set2, y_set3, y_aug, y_augA, y_augS, y_ex, y_ifST, y_ifSF, y_for, y_ret, y_nx, y_rt, y_bk, y_ct, y_fnR, y_fnN, y_nm, y_tp, y_tgn, y_tgc, y_tgk, v_add, v_sub, v_eqI, v_eqS, v_eqB, v_neI, v_neS, v_neB, v_lt, v_le, v_gt, v_ge, v_lenT, v_lenL, v_lenF, v_tupL, v_tupT, v_listL, v_listT, v_intI, v_intB, v_max, v_min, v_ixT, v_ixL, v_at0, v_at1, v_at2, y_lst4, y_lst5, y_lst6, y_lst7, y_tup5, y_tup6, y_sl1, y_sl1i, y_sl2, y_sl2i, y_sl3, v_slF, v_slL, v_slT, w_0, w_1, y_part, y_sl1v, y_sl1b, y_sl1n, y_sl2v, y_sl2b, y_sl2n, v_isTT, v_isTI, v_isTB, v_isTS, v_isIT, v_isII, v_isIB, v_isIS, v_isBT, v_isBI, v_isBB, v_isBS, v_isST, v_isSI, v_isSB, v_isSS, v_isN, x_rev, x_join, x_fmt, x_fstr, x_zipS, y_rev, y_join1, y_join2, y_fmt, y_fstr, y_rtS, y_zipS1, y_zipS2, v_revL, x_callF, y_callF, List.getElem?_cons_zero, List.getElem?_cons_succ, List.set_cons_zero, List.set_cons_succ, decide_true, decide_false, Int.reduceEq, Int.reduceLT, Int.reduceLE, decide_eq_true_eq, Bool.not_true, Bool.not_false, if_true, if_false, Bool.false_eq_true, b__law_inner, toK, ofs_inj, String.reduceEq, subs, List.map_nil]
  | .row c k, _ => simp -implicitDefEqProofs only [x_var, y_var, x_con, x_glob, x_bin, x_neg, x_cmp, x_chain, x_isN, x_notN, x_and, x_and1, x_or, x_or1, x_not, x_ife, x_call, x_callP, x_bi, x_isi, x_listRg, x_ix, x_sl, x_tup, x_lst, x_comp, x_compIf, x_box, x_pop, x_popAt, x_append, x_nil, x_cons, x_seq, x_rng1, x_rng2, x_zip, x_asg, x_setix, x_aug, x_ex, x_if, x_for, x_while, x_ret, x_brk, x_cont, x_bnil, x_bcons, y_rt1, y_rtB, y_bin1, y_bin2, y_cmp1, y_cmp2, y_neg, y_isN, y_notN, y_andT, y_andF, y_orT, y_orF, y_not, y_ifT, y_ifF, y_chain1, y_chain2, y_chainT, y_chainF, y_chain3, y_cons1, y_cons2, y_call, y_callP, y_bi, y_isi, y_ix1, y_ix2, y_tup0, y_tup1, y_tup2, y_tup3, y_tup4, y_lst0, y_lst1, y_lst2, y_lst3, y_lc, y_box, y_pop, y_popAt1, y_popAt2, y_append1, y_append2, y_rtL, y_seq, y_seqT, y_seqL, y_rng21, y_zip1, y_zip2, y_zipT, y_zipL, y_rtE, y_asg, y_set1, y_set2, y_set3, y_aug, y_augA, y_augS, y_ex, y_ifST, y_ifSF, y_for, y_ret, y_nx, y_rt, y_bk, y_ct, y_fnR, y_fnN, y_nm, y_tp, y_tgn, y_tgc, y_tgk, v_add, v_sub, v_eqI, v_eqS, v_eqB, v_neI, v_neS, v_neB, v_lt, v_le, v_gt, v_ge, v_lenT, v_lenL, v_lenF, v_tupL, v_tupT, v_listL, v_listT, v_intI, v_intB, v_max, v_min, v_ixT, v_ixL, v_at0, v_at1, v_at2, y_lst4, y_lst5, y_lst6, y_lst7, y_tup5, y_tup6, y_sl1, y_sl1i, y_sl2, y_sl2i, y_sl3, v_slF, v_slL, v_slT, w_0, w_1, y_part, y_sl1v, y_sl1b, y_sl1n, y_sl2v, y_sl2b, y_sl2n, v_isTT, v_isTI, v_isTB, v_isTS, v_isIT, v_isII, v_isIB, v_isIS, v_isBT, v_isBI, v_isBB, v_isBS, v_isST, v_isSI, v_isSB, v_isSS, v_isN, x_rev, x_join, x_fmt, x_fstr, x_zipS, y_rev, y_join1, y_join2, y_fmt, y_fstr, y_rtS, y_zipS1, y_zipS2, v_revL, x_callF, y_callF, List.getElem?_cons_zero, List.getElem?_cons_succ, List.set_cons_zero, List.set_cons_succ, decide_true, decide_false, Int.reduceEq, Int.reduceLT, Int.reduceLE, decide_eq_true_eq, Bool.not_true, Bool.not_false, if_true, if_false, Bool.false_eq_true, b__law_inner, toK, ofs_inj, String.reduceEq, subs, List.map_nil, List.map_cons]; rfl
  | .wrap c k, _ =>
    cases c
    · simp -implicitDefEqProofs only [x_var, y_var, x_con, x_glob, x_bin, x_neg, x_cmp, x_chain, x_isN, x_notN, x_and, x_and1, x_or, x_or1, x_not, x_ife, x_call, x_callP, x_bi, x_isi, x_listRg, x_ix, x_sl, x_tup, x_lst, x_comp, x_compIf, x_box, x_pop, x_popAt, x_append, x_nil, x_cons, x_seq, x_rng1, x_rng2, x_zip, x_asg, x_setix, x_aug, x_ex, x_if, x_for, x_while, x_ret, x_brk, x_cont, x_bnil, x_bcons, y_rt1, y_rtB, y_bin1, y_bin2, y_cmp1, y_cmp2, y_neg, y_isN, y_notN, y_andT, y_andF, y_orT, y_orF, y_not, y_ifT, y_ifF, y_chain1, y_chain2, y_chainT, y_chainF, y_chain3, y_cons1, y_cons2, y_call, y_callP, y_bi, y_isi, y_ix1, y_ix2, y_tup0, y_tup1, y_tup2, y_tup3, y_tup4, y_lst0, y_lst1, y_lst2, y_lst3, y_lc, y_box, y_pop, y_popAt1, y_popAt2, y_append1, y_append2, y_rtL, y_seq, y_seqT, y_seqL, y_rng21, y_zip1, y_zip2, y_zipT, y_zipL, y_rtE, y_asg, y_set1, y_set2, y_set3, y_aug, y_augA, y_augS, y_ex, y_ifST, y_ifSF, y_for, y_ret, y_nx, y_rt, y_bk, y_ct, y_fnR, y_fnN, y_nm, y_tp, y_tgn, y_tgc, y_tgk, v_add, v_sub, v_eqI, v_eqS, v_eqB, v_neI, v_neS, v_neB, v_lt, v_le, v_gt, v_ge, v_lenT, v_lenL, v_lenF, v_tupL, v_tupT, v_listL, v_listT, v_intI, v_intB, v_max, v_min, v_ixT, v_ixL, v_at0, v_at1, v_at2, y_lst4, y_lst5, y_lst6, y_lst7, y_tup5, y_tup6, y_sl1, y_sl1i, y_sl2, y_sl2i, y_sl3, v_slF, v_slL, v_slT, w_0, w_1, y_part, y_sl1v, y_sl1b, y_sl1n, y_sl2v, y_sl2b, y_sl2n, v_isTT, v_isTI, v_isTB, v_isTS, v_isIT, v_isII, v_isIB, v_isIS, v_isBT, v_isBI, v_isBB, v_isBS, v_isST, v_isSI, v_isSB, v_isSS, v_isN, x_rev, x_join, x_fmt, x_fstr, x_zipS, y_rev, y_join1, y_join2, y_fmt, y_fstr, y_rtS, y_zipS1, y_zipS2, v_revL, x_callF, y_callF, List.getElem?_cons_zero, List.getElem?_cons_succ, List.set_cons_zero, List.set_cons_succ, decide_true, decide_false, Int.reduceEq, Int.reduceLT, Int.reduceLE, decide_eq_true_eq, Bool.not_true, Bool.not_false, if_true, if_false, Bool.false_eq_true, b__law_inner, toK, wWrap_f, ofs_inj, String.reduceEq, subs, List.map_nil, List.map_cons]; rfl
    · simp -implicitDefEqProofs only [x_var, y_var, x_con, x_glob, x_bin, x_neg, x_cmp, x_chain, x_isN, x_notN, x_and, x_and1, x_or, x_or1, x_not, x_ife, x_call, x_callP, x_bi, x_isi, x_listRg, x_ix, x_sl, x_tup, x_lst, x_comp, x_compIf, x_box, x_pop, x_popAt, x_append, x_nil, x_cons, x_seq, x_rng1, x_rng2, x_zip, x_asg, x_setix, x_aug, x_ex, x_if, x_for, x_while, x_ret, x_brk, x_cont, x_bnil, x_bcons, y_rt1, y_rtB, y_bin1, y_bin2, y_cmp1, y_cmp2, y_neg, y_isN, y_notN, y_andT, y_andF, y_orT, y_orF, y_not, y_ifT, y_ifF, y_chain1, y_chain2, y_chainT, y_chainF, y_chain3, y_cons1, y_cons2, y_call, y_callP, y_bi, y_isi, y_ix1, y_ix2, y_tup0, y_tup1, y_tup2, y_tup3, y_tup4, y_lst0, y_lst1, y_lst2, y_lst3, y_lc, y_box, y_pop, y_popAt1, y_popAt2, y_append1, y_append2, y_rtL, y_seq, y_seqT, y_seqL, y_rng21, y_zip1, y_zip2, y_zipT, y_zipL, y_rtE, y_asg, y_set1, y_set2, y_set3, y_aug, y_augA, y_augS, y_ex, y_ifST, y_ifSF, y_for, y_ret, y_nx, y_rt, y_bk, y_ct, y_fnR, y_fnN, y_nm, y_tp, y_tgn, y_tgc, y_tgk, v_add, v_sub, v_eqI, v_eqS, v_eqB, v_neI, v_neS, v_neB, v_lt, v_le, v_gt, v_ge, v_lenT, v_lenL, v_lenF, v_tupL, v_tupT, v_listL, v_listT, v_intI, v_intB, v_max, v_min, v_ixT, v_ixL, v_at0, v_at1, v_at2, y_lst4, y_lst5, y_lst6, y_lst7, y_tup5, y_tup6, y_sl1, y_sl1i, y_sl2, y_sl2i, y_sl3, v_slF, v_slL, v_slT, w_0, w_1, y_part, y_sl1v, y_sl1b, y_sl1n, y_sl2v, y_sl2b, y_sl2n, v_isTT, v_isTI, v_isTB, v_isTS, v_isIT, v_isII, v_isIB, v_isIS, v_isBT, v_isBI, v_isBB, v_isBS, v_isST, v_isSI, v_isSB, v_isSS, v_isN, x_rev, x_join, x_fmt, x_fstr, x_zipS, y_rev, y_join1, y_join2, y_fmt, y_fstr, y_rtS, y_zipS1, y_zipS2, v_revL, x_callF, y_callF, List.getElem?_cons_zero, List.getElem?_cons_succ, List.set_cons_zero, List.set_cons_succ, decide_true, decide_false, Int.reduceEq, Int.reduceLT, Int.reduceLE, decide_eq_true_eq, Bool.not_true, Bool.not_false, if_true, if_false, Bool.false_eq_true, b__law_inner, toK, wWrap_t, ofs_inj, String.reduceEq, subs, List.map_nil, List.map_cons]; rfl
  | .rcd v ps, hz =>
    simp only [kz] at hz
    have hl := szl (l := ps.ls)
    rw [← pz_ls] at hl
    have hll : (rangeD 0 ps.ls.length).length ≤ lim := by rw [rangeD_len]; exact lim10 (by omega)
    have eR : ∀ m : M, kRng1 (some (.int (((ps.ls.map pk).length : Nat) : Int), m)) = some (rangeD 0 ps.ls.length, m) := fun m => by rw [List.length_map, y_rng1 (rgOk_of (by omega) (by omega)), Int.toNat_natCast]
    have cm : ∀ w : Str, compL (.nm 2) [some (.tup [.str w, .tup (ps.ls.map pk)]), some (.str w), none] (evE (run tab G n) G (.tup (.cons (.tup (.cons (.con (.int 1)) (.cons (.var 2) (.cons (.con (.int 1)) .nil)))) (.cons (.ix (.ix (.ix (.var 0) (.con (.int 1))) (.var 2)) (.con (.int 1))) .nil)))) (rangeD 0 ps.ls.length) m = some ((subs (.rcd v ps)).map qD, m) := by
      intro w
      have e0 : (subs (.rcd v ps)).map qD = (rangeD 0 ps.ls.length).map (fun d => match d with | .int i => D.tup [.tup [.int 1, .int i, .int 1], toK (at2 ps.ls i.toNat)] | _ => .non) := by
        simp only [subs, rangeD, List.map_map]
        apply List.map_congr_left
        intro i _
        simp [qD]
      rw [e0, Pv.comp_map]
      intro d hd
      obtain ⟨i, hi, rfl⟩ := rg hd
      refine ⟨_, y_nm, ?_⟩
      have e1 : atD (ps.ls.map pk) (i : Int) = some (.tup [.str ps.ls[i].1, toK ps.ls[i].2]) := atD_nat (by simp [hi, pk])
      simp -implicitDefEqProofs only [x_var, y_var, x_con, x_glob, x_bin, x_neg, x_cmp, x_chain, x_isN, x_notN, x_and, x_and1, x_or, x_or1, x_not, x_ife, x_call, x_callP, x_bi, x_isi, x_listRg, x_ix, x_sl, x_tup, x_lst, x_comp, x_compIf, x_box, x_pop, x_popAt, x_append, x_nil, x_cons, x_seq, x_rng1, x_rng2, x_zip, x_asg, x_setix, x_aug, x_ex, x_if, x_for, x_while, x_ret, x_brk, x_cont, x_bnil, x_bcons, y_rt1, y_rtB, y_bin1, y_bin2, y_cmp1, y_cmp2, y_neg, y_isN, y_notN, y_andT, y_andF, y_orT, y_orF, y_not, y_ifT, y_ifF, y_chain1, y_chain2, y_chainT, y_chainF, y_chain3, y_cons1, y_cons2, y_call, y_callP, y_bi, y_isi, y_ix1, y_ix2, y_tup0, y_tup1, y_tup2, y_tup3, y_tup4, y_lst0, y_lst1, y_lst2, y_lst3, y_lc, y_box, y_pop, y_popAt1, y_popAt2, y_append1, y_append2, y_rtL, y_seq, y_seqT, y_seqL, y_rng21, y_zip1, y_zip2, y_zipT, y_zipL, y_rtE, y_asg, y_set1, y_set2, y_set3, y_aug, y_augA, y_augS, y_ex, y_ifST, y_ifSF, y_for, y_ret, y_nx, y_rt, y_bk, y_ct, y_fnR, y_fnN, y_nm, y_tp, y_tgn, y_tgc, y_tgk, v_add, v_sub, v_eqI, v_eqS, v_eqB, v_neI, v_neS, v_neB, v_lt, v_le, v_gt, v_ge, v_lenT, v_lenL, v_lenF, v_tupL, v_tupT, v_listL, v_listT, v_intI, v_intB, v_max, v_min, v_ixT, v_ixL, v_at0, v_at1, v_at2, y_lst4, y_lst5, y_lst6, y_lst7, y_tup5, y_tup6, y_sl1, y_sl1i, y_sl2, y_sl2i, y_sl3, v_slF, v_slL, v_slT, w_0, w_1, y_part, y_sl1v, y_sl1b, y_sl1n, y_sl2v, y_sl2b, y_sl2n, v_isTT, v_isTI, v_isTB, v_isTS, v_isIT, v_isII, v_isIB, v_isIS, v_isBT, v_isBI, v_isBB, v_isBS, v_isST, v_isSI, v_isSB, v_isSS, v_isN, x_rev, x_join, x_fmt, x_fstr, x_zipS, y_rev, y_join1, y_join2, y_fmt, y_fstr, y_rtS, y_zipS1, y_zipS2, v_revL, x_callF, y_callF, List.getElem?_cons_zero, List.getElem?_cons_succ, List.set_cons_zero, List.set_cons_succ, decide_true, decide_false, Int.reduceEq, Int.reduceLT, Int.reduceLE, decide_eq_true_eq, Bool.not_true, Bool.not_false, if_true, if_false, Bool.false_eq_true, e1, Int.toNat_natCast, at2_get hi]
    cases v
    · simp -implicitDefEqProofs only [x_var, y_var, x_con, x_glob, x_bin, x_neg, x_cmp, x_chain, x_isN, x_notN, x_and, x_and1, x_or, x_or1, x_not, x_ife, x_call, x_callP, x_bi, x_isi, x_listRg, x_ix, x_sl, x_tup, x_lst, x_comp, x_compIf, x_box, x_pop, x_popAt, x_append, x_nil, x_cons, x_seq, x_rng1, x_rng2, x_zip, x_asg, x_setix, x_aug, x_ex, x_if, x_for, x_while, x_ret, x_brk, x_cont, x_bnil, x_bcons, y_rt1, y_rtB, y_bin1, y_bin2, y_cmp1, y_cmp2, y_neg, y_isN, y_notN, y_andT, y_andF, y_orT, y_orF, y_not, y_ifT, y_ifF, y_chain1, y_chain2, y_chainT, y_chainF, y_chain3, y_cons1, y_cons2, y_call, y_callP, y_bi, y_isi, y_ix1, y_ix2, y_tup0, y_tup1, y_tup2, y_tup3, y_tup4, y_lst0, y_lst1, y_lst2, y_lst3, y_lc, y_box, y_pop, y_popAt1, y_popAt2, y_append1, y_append2, y_rtL, y_seq, y_seqT, y_seqL, y_rng21, y_zip1, y_zip2, y_zipT, y_zipL, y_rtE, y_asg, y_set1, y_set2, y_set3, y_aug, y_augA, y_augS, y_ex, y_ifST, y_ifSF, y_for, y_ret, y_nx, y_rt, y_bk, y_ct, y_fnR, y_fnN, y_nm, y_tp, y_tgn, y_tgc, y_tgk, v_add, v_sub, v_eqI, v_eqS, v_eqB, v_neI, v_neS, v_neB, v_lt, v_le, v_gt, v_ge, v_lenT, v_lenL, v_lenF, v_tupL, v_tupT, v_listL, v_listT, v_intI, v_intB, v_max, v_min, v_ixT, v_ixL, v_at0, v_at1, v_at2, y_lst4, y_lst5, y_lst6, y_lst7, y_tup5, y_tup6, y_sl1, y_sl1i, y_sl2, y_sl2i, y_sl3, v_slF, v_slL, v_slT, w_0, w_1, y_part, y_sl1v, y_sl1b, y_sl1n, y_sl2v, y_sl2b, y_sl2n, v_isTT, v_isTI, v_isTB, v_isTS, v_isIT, v_isII, v_isIB, v_isIS, v_isBT, v_isBI, v_isBB, v_isBS, v_isST, v_isSI, v_isSB, v_isSS, v_isN, x_rev, x_join, x_fmt, x_fstr, x_zipS, y_rev, y_join1, y_join2, y_fmt, y_fstr, y_rtS, y_zipS1, y_zipS2, v_revL, x_callF, y_callF, List.getElem?_cons_zero, List.getElem?_cons_succ, List.set_cons_zero, List.set_cons_succ, decide_true, decide_false, Int.reduceEq, Int.reduceLT, Int.reduceLE, decide_eq_true_eq, Bool.not_true, Bool.not_false, if_true, if_false, Bool.false_eq_true, b__law_inner, toK, wRec_f, ls_psD, ofs_inj, String.reduceEq, eR, y_comp hll, cm]
    · simp -implicitDefEqProofs only [x_var, y_var, x_con, x_glob, x_bin, x_neg, x_cmp, x_chain, x_isN, x_notN, x_and, x_and1, x_or, x_or1, x_not, x_ife, x_call, x_callP, x_bi, x_isi, x_listRg, x_ix, x_sl, x_tup, x_lst, x_comp, x_compIf, x_box, x_pop, x_popAt, x_append, x_nil, x_cons, x_seq, x_rng1, x_rng2, x_zip, x_asg, x_setix, x_aug, x_ex, x_if, x_for, x_while, x_ret, x_brk, x_cont, x_bnil, x_bcons, y_rt1, y_rtB, y_bin1, y_bin2, y_cmp1, y_cmp2, y_neg, y_isN, y_notN, y_andT, y_andF, y_orT, y_orF, y_not, y_ifT, y_ifF, y_chain1, y_chain2, y_chainT, y_chainF, y_chain3, y_cons1, y_cons2, y_call, y_callP, y_bi, y_isi, y_ix1, y_ix2, y_tup0, y_tup1, y_tup2, y_tup3, y_tup4, y_lst0, y_lst1, y_lst2, y_lst3, y_lc, y_box, y_pop, y_popAt1, y_popAt2, y_append1, y_append2, y_rtL, y_seq, y_seqT, y_seqL, y_rng21, y_zip1, y_zip2, y_zipT, y_zipL, y_rtE, y_asg, y_set1, y_set2, y_set3, y_aug, y_augA, y_augS, y_ex, y_ifST, y_ifSF, y_for, y_ret, y_nx, y_rt, y_bk, y_ct, y_fnR, y_fnN, y_nm, y_tp, y_tgn, y_tgc, y_tgk, v_add, v_sub, v_eqI, v_eqS, v_eqB, v_neI, v_neS, v_neB, v_lt, v_le, v_gt, v_ge, v_lenT, v_lenL, v_lenF, v_tupL, v_tupT, v_listL, v_listT, v_intI, v_intB, v_max, v_min, v_ixT, v_ixL, v_at0, v_at1, v_at2, y_lst4, y_lst5, y_lst6, y_lst7, y_tup5, y_tup6, y_sl1, y_sl1i, y_sl2, y_sl2i, y_sl3, v_slF, v_slL, v_slT, w_0, w_1, y_part, y_sl1v, y_sl1b, y_sl1n, y_sl2v, y_sl2b, y_sl2n, v_isTT, v_isTI, v_isTB, v_isTS, v_isIT, v_isII, v_isIB, v_isIS, v_isBT, v_isBI, v_isBB, v_isBS, v_isST, v_isSI, v_isSB, v_isSS, v_isN, x_rev, x_join, x_fmt, x_fstr, x_zipS, y_rev, y_join1, y_join2, y_fmt, y_fstr, y_rtS, y_zipS1, y_zipS2, v_revL, x_callF, y_callF, List.getElem?_cons_zero, List.getElem?_cons_succ, List.set_cons_zero, List.set_cons_succ, decide_true, decide_false, Int.reduceEq, Int.reduceLT, Int.reduceLE, decide_eq_true_eq, Bool.not_true, Bool.not_false, if_true, if_false, Bool.false_eq_true, b__law_inner, toK, wRec_t, ls_psD, ofs_inj, String.reduceEq, eR, y_comp hll, cm]
  | .use s ps, hz =>
    simp only [kz] at hz
    have hl := szlk (l := ps.ls)
    rw [← fz_ls] at hl
    have hll : (rangeD 0 ps.ls.length).length ≤ lim := by rw [rangeD_len]; exact lim10 (by omega)
    have eR : ∀ m : M, kRng1 (some (.int (((ps.ls.map toK).length : Nat) : Int), m)) = some (rangeD 0 ps.ls.length, m) := fun m => by rw [List.length_map, y_rng1 (rgOk_of (by omega) (by omega)), Int.toNat_natCast]
    have cm : compL (.nm 2) [some (.tup [.str "use", .str s, .tup (ps.ls.map toK)]), some (.str "use"), none] (evE (run tab G n) G (.tup (.cons (.tup (.cons (.con (.int 2)) (.cons (.var 2) .nil))) (.cons (.ix (.ix (.var 0) (.con (.int 2))) (.var 2)) .nil)))) (rangeD 0 ps.ls.length) m = some ((subs (.use s ps)).map qD, m) := by
      have e0 : (subs (.use s ps)).map qD = (rangeD 0 ps.ls.length).map (fun d => match d with | .int i => D.tup [.tup [.int 2, .int i], toK (atk ps.ls i.toNat)] | _ => .non) := by
        simp only [subs, rangeD, List.map_map]
        apply List.map_congr_left
        intro i _
        simp [qD]
      rw [e0, Pv.comp_map]
      intro d hd
      obtain ⟨i, hi, rfl⟩ := rg hd
      refine ⟨_, y_nm, ?_⟩
      have e1 : atD (ps.ls.map toK) (i : Int) = some (toK ps.ls[i]) := atD_nat (by simp [hi])
      simp -implicitDefEqProofs only [x_var, y_var, x_con, x_glob, x_bin, x_neg, x_cmp, x_chain, x_isN, x_notN, x_and, x_and1, x_or, x_or1, x_not, x_ife, x_call, x_callP, x_bi, x_isi, x_listRg, x_ix, x_sl, x_tup, x_lst, x_comp, x_compIf, x_box, x_pop, x_popAt, x_append, x_nil, x_cons, x_seq, x_rng1, x_rng2, x_zip, x_asg, x_setix, x_aug, x_ex, x_if, x_for, x_while, x_ret, x_brk, x_cont, x_bnil, x_bcons, y_rt1, y_rtB, y_bin1, y_bin2, y_cmp1, y_cmp2, y_neg, y_isN, y_notN, y_andT, y_andF, y_orT, y_orF, y_not, y_ifT, y_ifF, y_chain1, y_chain2, y_chainT, y_chainF, y_chain3, y_cons1, y_cons2, y_call, y_callP, y_bi, y_isi, y_ix1, y_ix2, y_tup0, y_tup1, y_tup2, y_tup3, y_tup4, y_lst0, y_lst1, y_lst2, y_lst3, y_lc, y_box, y_pop, y_popAt1, y_popAt2, y_append1, y_append2, y_rtL, y_seq, y_seqT, y_seqL, y_rng21, y_zip1, y_zip2, y_zipT, y_zipL, y_rtE, y_asg, y_set1, y_set2, y_set3, y_aug, y_augA, y_augS, y_ex, y_ifST, y_ifSF, y_for, y_ret, y_nx, y_rt, y_bk, y_ct, y_fnR, y_fnN, y_nm, y_tp, y_tgn, y_tgc, y_tgk, v_add, v_sub, v_eqI, v_eqS, v_eqB, v_neI, v_neS, v_neB, v_lt, v_le, v_gt, v_ge, v_lenT, v_lenL, v_lenF, v_tupL, v_tupT, v_listL, v_listT, v_intI, v_intB, v_max, v_min, v_ixT, v_ixL, v_at0, v_at1, v_at2, y_lst4, y_lst5, y_lst6, y_lst7, y_tup5, y_tup6, y_sl1, y_sl1i, y_sl2, y_sl2i, y_sl3, v_slF, v_slL, v_slT, w_0, w_1, y_part, y_sl1v, y_sl1b, y_sl1n, y_sl2v, y_sl2b, y_sl2n, v_isTT, v_isTI, v_isTB, v_isTS, v_isIT, v_isII, v_isIB, v_isIS, v_isBT, v_isBI, v_isBB, v_isBS, v_isST, v_isSI, v_isSB, v_isSS, v_isN, x_rev, x_join, x_fmt, x_fstr, x_zipS, y_rev, y_join1, y_join2, y_fmt, y_fstr, y_rtS, y_zipS1, y_zipS2, v_revL, x_callF, y_callF, List.getElem?_cons_zero, List.getElem?_cons_succ, List.set_cons_zero, List.set_cons_succ, decide_true, decide_false, Int.reduceEq, Int.reduceLT, Int.reduceLE, decide_eq_true_eq, Bool.not_true, Bool.not_false, if_true, if_false, Bool.false_eq_true, e1, Int.toNat_natCast, atk_get hi]
    simp -implicitDefEqProofs only [x_var, y_var, x_con, x_glob, x_bin, x_neg, x_cmp, x_chain, x_isN, x_notN, x_and, x_and1, x_or, x_or1, x_not, x_ife, x_call, x_callP, x_bi, x_isi, x_listRg, x_ix, x_sl, x_tup, x_lst, x_comp, x_compIf, x_box, x_pop, x_popAt, x_append, x_nil, x_cons, x_seq, x_rng1, x_rng2, x_zip, x_asg, x_setix, x_aug, x_ex, x_if, x_for, x_while, x_ret, x_brk, x_cont, x_bnil, x_bcons, y_rt1, y_rtB, y_bin1, y_bin2, y_cmp1, y_cmp2, y_neg, y_isN, y_notN, y_andT, y_andF, y_orT, y_orF, y_not, y_ifT, y_ifF, y_chain1, y_chain2, y_chainT, y_chainF, y_chain3, y_cons1, y_cons2, y_call, y_callP, y_bi, y_isi, y_ix1, y_ix2, y_tup0, y_tup1, y_tup2, y_tup3, y_tup4, y_lst0, y_lst1, y_lst2, y_lst3, y_lc, y_box, y_pop, y_popAt1, y_popAt2, y_append1, y_append2, y_rtL, y_seq, y_seqT, y_seqL, y_rng21, y_zip1, y_zip2, y_zipT, y_zipL, y_rtE, y_asg, y_set1, y_set2, y_set3, y_aug, y_augA, y_augS, y_ex, y_ifST, y_ifSF, y_for, y_ret, y_nx, y_rt, y_bk, y_ct, y_fnR, y_fnN, y_nm, y_tp, y_tgn, y_tgc, y_tgk, v_add, v_sub, v_eqI, v_eqS, v_eqB, v_neI, v_neS, v_neB, v_lt, v_le, v_gt, v_ge, v_lenT, v_lenL, v_lenF, v_tupL, v_tupT, v_listL, v_listT, v_intI, v_intB, v_max, v_min, v_ixT, v_ixL, v_at0, v_at1, v_at2, y_lst4, y_lst5, y_lst6, y_lst7, y_tup5, y_tup6, y_sl1, y_sl1i, y_sl2, y_sl2i, y_sl3, v_slF, v_slL, v_slT, w_0, w_1, y_part, y_sl1v, y_sl1b, y_sl1n, y_sl2v, y_sl2b, y_sl2n, v_isTT, v_isTI, v_isTB, v_isTS, v_isIT, v_isII, v_isIB, v_isIS, v_isBT, v_isBI, v_isBB, v_isBS, v_isST, v_isSI, v_isSB, v_isSS, v_isN, x_rev, x_join, x_fmt, x_fstr, x_zipS, y_rev, y_join1, y_join2, y_fmt, y_fstr, y_rtS, y_zipS1, y_zipS2, v_revL, x_callF, y_callF, List.getElem?_cons_zero, List.getElem?_cons_succ, List.set_cons_zero, List.set_cons_succ, decide_true, decide_false, Int.reduceEq, Int.reduceLT, Int.reduceLE, decide_eq_true_eq, Bool.not_true, Bool.not_false, if_true, if_false, Bool.false_eq_true, b__law_inner, toK, ls_ksD, ofs_inj, String.reduceEq, eR, y_comp hll, cm]
end Lw

namespace Lw
open PySem Pv
def szq (hs : List (List Nat × Kd)) : Nat := (hs.map fun p => kz p.2).sum
theorem szq_app {a b : List (List Nat × Kd)} : szq (a ++ b) = szq a + szq b := by simp [szq]
theorem szq_rev {a : List (List Nat × Kd)} : szq a.reverse = szq a := by simp [szq]
theorem szq_len (hs : List (List Nat × Kd)) : hs.length ≤ szq hs := by
  induction hs with
  | nil => simp
  | cons p hs ih =>
    have := kz_pos p.2
    simp only [szq, List.map_cons, List.sum_cons, List.length_cons] at ih ⊢
    omega
theorem subs_sz {k : Kd} : szq (subs k) + 1 = kz k := by
  match k with
  | .truth => rfl
  | .num _ _ => rfl
  | .hole _ => rfl
  | .row n k => simp only [subs, szq, kz, List.map_cons, List.map_nil, List.sum_cons, List.sum_nil]; omega
  | .wrap n k => simp only [subs, szq, kz, List.map_cons, List.map_nil, List.sum_cons, List.sum_nil]; omega
  | .rcd v ps =>
    have e : (subs (.rcd v ps)).map (fun f => kz f.2) = ps.ls.map fun p => kz p.2 := by
      simp only [subs, List.map_map]
      apply List.ext_getElem
      · simp
      · intro i h1 h2
        simp only [List.length_map, List.length_range] at h1
        simp [at2_get h1]
    simp only [szq, e, kz, pz_ls, lz]; omega
  | .use v ps =>
    have e : (subs (.use v ps)).map (fun f => kz f.2) = ps.ls.map kz := by
      simp only [subs, List.map_map]
      apply List.ext_getElem
      · simp
      · intro i h1 h2
        simp only [List.length_map, List.length_range] at h1
        simp [atk_get h1]
    simp only [szq, e, kz, fz_ls, lzk]; omega
def kids (p : List Nat) (k : Kd) : List (List Nat × Kd) := (subs k).map fun f => (p ++ f.1, f.2)
theorem kids_sz {p : List Nat} {k : Kd} : szq (kids p k) = szq (subs k) := by
  simp only [szq, kids, List.map_map]; rfl
theorem forms_ok {G : List D} {n : Nat} {k : Kd} (hk : wf k = true) (hz : kz k ≤ 200) (s : Dk) :
    ∃ fs : List (List Nat × Kd), kFresh (mem s []) (run tab G (n + 2) 10 [toK k] (mem s [])) = some (.lst (fs.map qD), mem s []) ∧ fs ≠ [] ∧ ∀ f ∈ fs, At k f.1 f.2 ∧ f.1.length ≤ 3 * kz k := by
  generalize hm0 : mem s [] = m
  have hokx := ok_k hk (by omega)
  have okq : ∀ f : List Nat × Kd, At k f.1 f.2 → okN (3 * kz k + 2) (qD f) = true ∧ f.1.length ≤ 3 * kz k := by
    intro f hf
    have q := getP_ok hokx (hf.ok hk).1
    refine ⟨okN_tup.mpr ⟨by simp, ?_⟩, q.2⟩
    intro z hz'
    simp only [List.mem_cons, List.not_mem_nil, or_false] at hz'
    rcases hz' with rfl | rfl
    · exact okN_path (by omega)
    · exact okN_up q.1
  have W := while_ok (tc := evE (run tab G (n + 1)) G (.cmp .ne (.var 1) (.lst .nil))) (tb := evB (run tab G (n + 1)) G l__law_forms_0)
    (fun j env mm => ∃ g l f hs fs a b, env = [some (toK k), some (.ref l), some (.ref f), a, b, none, none] ∧ mm = m ++ g ∧ m.length ≤ l ∧ m.length ≤ f ∧ l ≠ f ∧ mm[l]? = some (.lst (hs.map qD)) ∧ mm[f]? = some (.lst (fs.map qD)) ∧ (∀ p ∈ hs, At k p.1 p.2) ∧ (∀ p ∈ fs, At k p.1 p.2) ∧ (hs ≠ [] ∨ fs ≠ []) ∧ j = szq hs ∧ szq hs + fs.length ≤ kz k)
    (fun r => ∃ g l f fs a b, r = some (.nx, [some (toK k), some (.ref l), some (.ref f), a, b, none, none], m ++ g) ∧ m.length ≤ f ∧ (m ++ g)[f]? = some (.lst (fs.map qD)) ∧ fs ≠ [] ∧ ∀ p ∈ fs, At k p.1 p.2) (by
      rintro j env mm ⟨g, l, f, hs, fs, a, b, rfl, rfl, hl, hf, hlf, hm, hmf, hh, hff, hne, rfl, hzz⟩
      have hp : pures (hs.map qD) = true ∧ PyData.canLayAll0 (toPs (hs.map qD)) = true := pures_okN (n := 3 * kz k + 2) (by
        intro d hd
        obtain ⟨p, hp, rfl⟩ := List.mem_map.mp hd
        exact (okq p (hh p hp)).1)
      have tc := ne_nilR hm hp
      rcases nil_or_end hs with rfl | ⟨hs', ⟨p, y⟩, rfl⟩
      · refine .inl ⟨m ++ g, by simp -implicitDefEqProofs only [x_var, y_var, x_con, x_glob, x_bin, x_neg, x_cmp, x_chain, x_isN, x_notN, x_and, x_and1, x_or, x_or1, x_not, x_ife, x_call, x_callP, x_bi, x_isi, x_listRg, x_ix, x_sl, x_tup, x_lst, x_comp, x_compIf, x_box, x_pop, x_popAt, x_append, x_nil, x_cons, x_seq, x_rng1, x_rng2, x_zip, x_asg, x_setix, x_aug, x_ex, x_if, x_for, x_while, x_ret, x_brk, x_cont, x_bnil, x_bcons, y_rt1, y_rtB, y_bin1, y_bin2, y_cmp1, y_cmp2, y_neg, y_isN, y_notN, y_andT, y_andF, y_orT, y_orF, y_not, y_ifT, y_ifF, y_chain1, y_chain2, y_chainT, y_chainF, y_chain3, y_cons1, y_cons2, y_call, y_callP, y_bi, y_isi, y_ix1, y_ix2, y_tup0, y_tup1, y_tup2, y_tup3, y_tup4, y_lst0, y_lst1, y_lst2, y_lst3, y_lc, y_box, y_pop, y_popAt1, y_popAt2, y_append1, y_append2, y_rtL, y_seq, y_seqT, y_seqL, y_rng21, y_zip1, y_zip2, y_zipT, y_zipL, y_rtE, y_asg, y_set1, y_set2, y_set3, y_aug, y_augA, y_augS, y_ex, y_ifST, y_ifSF, y_for, y_ret, y_nx, y_rt, y_bk, y_ct, y_fnR, y_fnN, y_nm, y_tp, y_tgn, y_tgc, y_tgk, v_add, v_sub, v_eqI, v_eqS, v_eqB, v_neI, v_neS, v_neB, v_lt, v_le, v_gt, v_ge, v_lenT, v_lenL, v_lenF, v_tupL, v_tupT, v_listL, v_listT, v_intI, v_intB, v_max, v_min, v_ixT, v_ixL, v_at0, v_at1, v_at2, y_lst4, y_lst5, y_lst6, y_lst7, y_tup5, y_tup6, y_sl1, y_sl1i, y_sl2, y_sl2i, y_sl3, v_slF, v_slL, v_slT, w_0, w_1, y_part, y_sl1v, y_sl1b, y_sl1n, y_sl2v, y_sl2b, y_sl2n, v_isTT, v_isTI, v_isTB, v_isTS, v_isIT, v_isII, v_isIB, v_isIS, v_isBT, v_isBI, v_isBB, v_isBS, v_isST, v_isSI, v_isSB, v_isSS, v_isN, x_rev, x_join, x_fmt, x_fstr, x_zipS, y_rev, y_join1, y_join2, y_fmt, y_fstr, y_rtS, y_zipS1, y_zipS2, v_revL, x_callF, y_callF, List.getElem?_cons_zero, List.getElem?_cons_succ, List.set_cons_zero, List.set_cons_succ, decide_true, decide_false, Int.reduceEq, Int.reduceLT, Int.reduceLE, decide_eq_true_eq, Bool.not_true, Bool.not_false, if_true, if_false, Bool.false_eq_true, tc, List.map_nil, List.isEmpty_nil], g, l, f, fs, a, b, rfl, hf, hmf, ?_, hff⟩
        rcases hne with h | h
        · exact absurd rfl h
        · exact h
      · refine .inr (.inl ?_)
        have tc2 : evE (run tab G (n + 1)) G (.cmp .ne (.var 1) (.lst .nil)) [some (toK k), some (.ref l), some (.ref f), a, b, none, none] (m ++ g) = some (.bl true, m ++ g) := by
          have : ((hs' ++ [(p, y)]).map qD).isEmpty = false := by simp
          simp -implicitDefEqProofs only [x_var, y_var, x_con, x_glob, x_bin, x_neg, x_cmp, x_chain, x_isN, x_notN, x_and, x_and1, x_or, x_or1, x_not, x_ife, x_call, x_callP, x_bi, x_isi, x_listRg, x_ix, x_sl, x_tup, x_lst, x_comp, x_compIf, x_box, x_pop, x_popAt, x_append, x_nil, x_cons, x_seq, x_rng1, x_rng2, x_zip, x_asg, x_setix, x_aug, x_ex, x_if, x_for, x_while, x_ret, x_brk, x_cont, x_bnil, x_bcons, y_rt1, y_rtB, y_bin1, y_bin2, y_cmp1, y_cmp2, y_neg, y_isN, y_notN, y_andT, y_andF, y_orT, y_orF, y_not, y_ifT, y_ifF, y_chain1, y_chain2, y_chainT, y_chainF, y_chain3, y_cons1, y_cons2, y_call, y_callP, y_bi, y_isi, y_ix1, y_ix2, y_tup0, y_tup1, y_tup2, y_tup3, y_tup4, y_lst0, y_lst1, y_lst2, y_lst3, y_lc, y_box, y_pop, y_popAt1, y_popAt2, y_append1, y_append2, y_rtL, y_seq, y_seqT, y_seqL, y_rng21, y_zip1, y_zip2, y_zipT, y_zipL, y_rtE, y_asg, y_set1, y_set2, y_set3, y_aug, y_augA, y_augS, y_ex, y_ifST, y_ifSF, y_for, y_ret, y_nx, y_rt, y_bk, y_ct, y_fnR, y_fnN, y_nm, y_tp, y_tgn, y_tgc, y_tgk, v_add, v_sub, v_eqI, v_eqS, v_eqB, v_neI, v_neS, v_neB, v_lt, v_le, v_gt, v_ge, v_lenT, v_lenL, v_lenF, v_tupL, v_tupT, v_listL, v_listT, v_intI, v_intB, v_max, v_min, v_ixT, v_ixL, v_at0, v_at1, v_at2, y_lst4, y_lst5, y_lst6, y_lst7, y_tup5, y_tup6, y_sl1, y_sl1i, y_sl2, y_sl2i, y_sl3, v_slF, v_slL, v_slT, w_0, w_1, y_part, y_sl1v, y_sl1b, y_sl1n, y_sl2v, y_sl2b, y_sl2n, v_isTT, v_isTI, v_isTB, v_isTS, v_isIT, v_isII, v_isIB, v_isIS, v_isBT, v_isBI, v_isBB, v_isBS, v_isST, v_isSI, v_isSB, v_isSS, v_isN, x_rev, x_join, x_fmt, x_fstr, x_zipS, y_rev, y_join1, y_join2, y_fmt, y_fstr, y_rtS, y_zipS1, y_zipS2, v_revL, x_callF, y_callF, List.getElem?_cons_zero, List.getElem?_cons_succ, List.set_cons_zero, List.set_cons_succ, decide_true, decide_false, Int.reduceEq, Int.reduceLT, Int.reduceLE, decide_eq_true_eq, Bool.not_true, Bool.not_false, if_true, if_false, Bool.false_eq_true, tc, this]
        have hm' : (m ++ g)[l]? = some (.lst (hs'.map qD ++ [.tup [.tup (p.map nD), toK y]])) := by rw [hm, List.map_append]; rfl
        have pp := popR hm'
        rw [set_right hl] at pp
        have hml := get_set_right (v := .lst (hs'.map qD)) hl hm'
        have hmf1 : (m ++ g.set (l - m.length) (.lst (hs'.map qD)))[f]? = some (.lst (fs.map qD)) := by
          rw [← set_right hl, List.getElem?_set_ne hlf]; exact hmf
        have hz2 : szq (hs' ++ [(p, y)]) = szq hs' + kz y := by rw [szq_app]; simp [szq]
        have hlim : (fs.map qD).length < lim := by rw [List.length_map]; simp only [lim]; omega
        have aa := appR (y := .tup [.tup (p.map nD), toK y]) hmf1 hlim
        rw [set_right hf] at aa
        generalize hg1 : (g.set (l - m.length) (.lst (hs'.map qD))) = g1 at *
        generalize hg2 : (g1.set (f - m.length) (.lst (fs.map qD ++ [.tup [.tup (p.map nD), toK y]]))) = g2 at *
        have hmf2 : (m ++ g2)[f]? = some (.lst ((fs ++ [(p, y)]).map qD)) := by
          rw [← hg2, List.map_append]
          exact get_set_right hf hmf1
        have hml2 : (m ++ g2)[l]? = some (.lst (hs'.map qD)) := by
          rw [← hg2, ← set_right hf, List.getElem?_set_ne (Ne.symm hlf)]; exact hml
        have hpy : At k p y := hh (p, y) (by simp)
        have hh' : ∀ q ∈ hs', At k q.1 q.2 := fun q hq => hh q (List.mem_append_left _ hq)
        have hff' : ∀ q ∈ fs ++ [(p, y)], At k q.1 q.2 := by
          intro q hq
          rcases List.mem_append.mp hq with hq | hq
          · exact hff q hq
          · rw [List.mem_singleton.mp hq]; exact hpy
        have wy := (hpy.ok hk).2.1
        have hsub := subs_sz (k := y)
        have hpl : p.length ≤ 3 * kz k := (okq (p, y) hpy).2
        have hkid : ∀ q ∈ kids p y, At k q.1 q.2 := by
          intro q hq
          obtain ⟨f, hf, rfl⟩ := List.mem_map.mp hq
          exact .sub hpy hf
        have inn := inner_ok (G := G) (n := n) (k := y) (by omega) (m := m ++ g2)
        have pin : pure_ (.lst ((subs y).map qD)) = true := by
          rw [pure_]
          refine (pures_okN (n := 3 * kz y + 2) ?_).1
          intro d hd
          obtain ⟨f, hf, rfl⟩ := List.mem_map.mp hd
          obtain ⟨j1, j2, j3, _⟩ := sub_step wy hf
          have q := getP_ok (ok_k wy (by omega)) j1
          refine okN_tup.mpr ⟨by simp, ?_⟩
          intro z hz'
          simp only [List.mem_cons, List.not_mem_nil, or_false] at hz'
          rcases hz' with rfl | rfl
          · exact okN_path (by omega)
          · exact okN_up q.1
        have hsl := szq_len (subs y)
        have hlr : ((subs y).map qD).length ≤ lim := lim10 (by rw [List.length_map]; omega)
        have cm : compL (.tp (.cons (.nm 5) (.cons (.nm 6) .nil))) [some (toK k), some (.ref l), some (.ref f), some (.tup (p.map nD)), some (toK y), none, none] (evE (run tab G (n + 1)) G (.tup (.cons (.bin .add (.var 3) (.var 5)) (.cons (.var 6) .nil)))) ((subs y).map qD) (m ++ g2) = some ((kids p y).map qD, m ++ g2) := by
          have e0 : (kids p y).map qD = ((subs y).map qD).map (fun d => match d with | .tup [.tup q, z] => D.tup [.tup (p.map nD ++ q), z] | _ => .non) := by
            simp only [kids, List.map_map]
            apply List.map_congr_left
            intro f _
            simp [qD]
          rw [e0, Pv.comp_map]
          intro d hd
          obtain ⟨q, hq, rfl⟩ := List.mem_map.mp hd
          have j3 := (sub_step wy hq).2.2.1
          refine ⟨[some (toK k), some (.ref l), some (.ref f), some (.tup (p.map nD)), some (toK y), some (.tup (q.1.map nD)), some (toK q.2)], by simp -implicitDefEqProofs only [x_var, y_var, x_con, x_glob, x_bin, x_neg, x_cmp, x_chain, x_isN, x_notN, x_and, x_and1, x_or, x_or1, x_not, x_ife, x_call, x_callP, x_bi, x_isi, x_listRg, x_ix, x_sl, x_tup, x_lst, x_comp, x_compIf, x_box, x_pop, x_popAt, x_append, x_nil, x_cons, x_seq, x_rng1, x_rng2, x_zip, x_asg, x_setix, x_aug, x_ex, x_if, x_for, x_while, x_ret, x_brk, x_cont, x_bnil, x_bcons, y_rt1, y_rtB, y_bin1, y_bin2, y_cmp1, y_cmp2, y_neg, y_isN, y_notN, y_andT, y_andF, y_orT, y_orF, y_not, y_ifT, y_ifF, y_chain1, y_chain2, y_chainT, y_chainF, y_chain3, y_cons1, y_cons2, y_call, y_callP, y_bi, y_isi, y_ix1, y_ix2, y_tup0, y_tup1, y_tup2, y_tup3, y_tup4, y_lst0, y_lst1, y_lst2, y_lst3, y_lc, y_box, y_pop, y_popAt1, y_popAt2, y_append1, y_append2, y_rtL, y_seq, y_seqT, y_seqL, y_rng21, y_zip1, y_zip2, y_zipT, y_zipL, y_rtE, y_asg, y_set1, y_set2, y_set3, y_aug, y_augA, y_augS, y_ex, y_ifST, y_ifSF, y_for, y_ret, y_nx, y_rt, y_bk, y_ct, y_fnR, y_fnN, y_nm, y_tp, y_tgn, y_tgc, y_tgk, v_add, v_sub, v_eqI, v_eqS, v_eqB, v_neI, v_neS, v_neB, v_lt, v_le, v_gt, v_ge, v_lenT, v_lenL, v_lenF, v_tupL, v_tupT, v_listL, v_listT, v_intI, v_intB, v_max, v_min, v_ixT, v_ixL, v_at0, v_at1, v_at2, y_lst4, y_lst5, y_lst6, y_lst7, y_tup5, y_tup6, y_sl1, y_sl1i, y_sl2, y_sl2i, y_sl3, v_slF, v_slL, v_slT, w_0, w_1, y_part, y_sl1v, y_sl1b, y_sl1n, y_sl2v, y_sl2b, y_sl2n, v_isTT, v_isTI, v_isTB, v_isTS, v_isIT, v_isII, v_isIB, v_isIS, v_isBT, v_isBI, v_isBB, v_isBS, v_isST, v_isSI, v_isSB, v_isSS, v_isN, x_rev, x_join, x_fmt, x_fstr, x_zipS, y_rev, y_join1, y_join2, y_fmt, y_fstr, y_rtS, y_zipS1, y_zipS2, v_revL, x_callF, y_callF, List.getElem?_cons_zero, List.getElem?_cons_succ, List.set_cons_zero, List.set_cons_succ, decide_true, decide_false, Int.reduceEq, Int.reduceLT, Int.reduceLE, decide_eq_true_eq, Bool.not_true, Bool.not_false, if_true, if_false, Bool.false_eq_true], ?_⟩
          simp -implicitDefEqProofs only [x_var, y_var, x_con, x_glob, x_bin, x_neg, x_cmp, x_chain, x_isN, x_notN, x_and, x_and1, x_or, x_or1, x_not, x_ife, x_call, x_callP, x_bi, x_isi, x_listRg, x_ix, x_sl, x_tup, x_lst, x_comp, x_compIf, x_box, x_pop, x_popAt, x_append, x_nil, x_cons, x_seq, x_rng1, x_rng2, x_zip, x_asg, x_setix, x_aug, x_ex, x_if, x_for, x_while, x_ret, x_brk, x_cont, x_bnil, x_bcons, y_rt1, y_rtB, y_bin1, y_bin2, y_cmp1, y_cmp2, y_neg, y_isN, y_notN, y_andT, y_andF, y_orT, y_orF, y_not, y_ifT, y_ifF, y_chain1, y_chain2, y_chainT, y_chainF, y_chain3, y_cons1, y_cons2, y_call, y_callP, y_bi, y_isi, y_ix1, y_ix2, y_tup0, y_tup1, y_tup2, y_tup3, y_tup4, y_lst0, y_lst1, y_lst2, y_lst3, y_lc, y_box, y_pop, y_popAt1, y_popAt2, y_append1, y_append2, y_rtL, y_seq, y_seqT, y_seqL, y_rng21, y_zip1, y_zip2, y_zipT, y_zipL, y_rtE, y_asg, y_set1, y_set2, y_set3, y_aug, y_augA, y_augS, y_ex, y_ifST, y_ifSF, y_for, y_ret, y_nx, y_rt, y_bk, y_ct, y_fnR, y_fnN, y_nm, y_tp, y_tgn, y_tgc, y_tgk, v_add, v_sub, v_eqI, v_eqS, v_eqB, v_neI, v_neS, v_neB, v_lt, v_le, v_gt, v_ge, v_lenT, v_lenL, v_lenF, v_tupL, v_tupT, v_listL, v_listT, v_intI, v_intB, v_max, v_min, v_ixT, v_ixL, v_at0, v_at1, v_at2, y_lst4, y_lst5, y_lst6, y_lst7, y_tup5, y_tup6, y_sl1, y_sl1i, y_sl2, y_sl2i, y_sl3, v_slF, v_slL, v_slT, w_0, w_1, y_part, y_sl1v, y_sl1b, y_sl1n, y_sl2v, y_sl2b, y_sl2n, v_isTT, v_isTI, v_isTB, v_isTS, v_isIT, v_isII, v_isIB, v_isIS, v_isBT, v_isBI, v_isBB, v_isBS, v_isST, v_isSI, v_isSB, v_isSS, v_isN, x_rev, x_join, x_fmt, x_fstr, x_zipS, y_rev, y_join1, y_join2, y_fmt, y_fstr, y_rtS, y_zipS1, y_zipS2, v_revL, x_callF, y_callF, List.getElem?_cons_zero, List.getElem?_cons_succ, List.set_cons_zero, List.set_cons_succ, decide_true, decide_false, Int.reduceEq, Int.reduceLT, Int.reduceLE, decide_eq_true_eq, Bool.not_true, Bool.not_false, if_true, if_false, Bool.false_eq_true, v_catT (show (p.map nD).length + (q.1.map nD).length ≤ lim from lim10 (by simp only [List.length_map]; omega))]
        have hkl : (kids p y).length = (subs y).length := by simp [kids]
        have hzl : (hs'.map qD).length + ((kids p y).map qD).reverse.length ≤ lim := by
          have a := szq_len hs'
          simp only [List.length_map, List.length_reverse, hkl, lim]
          omega
        have hfl : f < (m ++ g2).length := by
          rcases Nat.lt_or_ge f (m ++ g2).length with q | q
          · exact q
          · rw [List.getElem?_eq_none q] at hmf2; cases hmf2
        refine ⟨m ++ g, [some (toK k), some (.ref (m ++ g2).length), some (.ref f), some (.tup (p.map nD)), some (toK y), none, none], (m ++ g2) ++ [.lst (hs'.map qD ++ ((kids p y).map qD).reverse)], tc2, ?_, szq (hs' ++ (kids p y).reverse), ?_, g2 ++ [.lst (hs'.map qD ++ ((kids p y).map qD).reverse)], (m ++ g2).length, f, hs' ++ (kids p y).reverse, fs ++ [(p, y)], some (.tup (p.map nD)), some (toK y), rfl, by rw [List.append_assoc], by simp, hf, by omega, ?_, ?_, ?_, hff', .inr (by simp), rfl, ?_⟩
        · simp -implicitDefEqProofs only [x_var, y_var, x_con, x_glob, x_bin, x_neg, x_cmp, x_chain, x_isN, x_notN, x_and, x_and1, x_or, x_or1, x_not, x_ife, x_call, x_callP, x_bi, x_isi, x_listRg, x_ix, x_sl, x_tup, x_lst, x_comp, x_compIf, x_box, x_pop, x_popAt, x_append, x_nil, x_cons, x_seq, x_rng1, x_rng2, x_zip, x_asg, x_setix, x_aug, x_ex, x_if, x_for, x_while, x_ret, x_brk, x_cont, x_bnil, x_bcons, y_rt1, y_rtB, y_bin1, y_bin2, y_cmp1, y_cmp2, y_neg, y_isN, y_notN, y_andT, y_andF, y_orT, y_orF, y_not, y_ifT, y_ifF, y_chain1, y_chain2, y_chainT, y_chainF, y_chain3, y_cons1, y_cons2, y_call, y_callP, y_bi, y_isi, y_ix1, y_ix2, y_tup0, y_tup1, y_tup2, y_tup3, y_tup4, y_lst0, y_lst1, y_lst2, y_lst3, y_lc, y_box, y_pop, y_popAt1, y_popAt2, y_append1, y_append2, y_rtL, y_seq, y_seqT, y_seqL, y_rng21, y_zip1, y_zip2, y_zipT, y_zipL, y_rtE, y_asg, y_set1, y_set2, y_set3, y_aug, y_augA, y_augS, y_ex, y_ifST, y_ifSF, y_for, y_ret, y_nx, y_rt, y_bk, y_ct, y_fnR, y_fnN, y_nm, y_tp, y_tgn, y_tgc, y_tgk, v_add, v_sub, v_eqI, v_eqS, v_eqB, v_neI, v_neS, v_neB, v_lt, v_le, v_gt, v_ge, v_lenT, v_lenL, v_lenF, v_tupL, v_tupT, v_listL, v_listT, v_intI, v_intB, v_max, v_min, v_ixT, v_ixL, v_at0, v_at1, v_at2, y_lst4, y_lst5, y_lst6, y_lst7, y_tup5, y_tup6, y_sl1, y_sl1i, y_sl2, y_sl2i, y_sl3, v_slF, v_slL, v_slT, w_0, w_1, y_part, y_sl1v, y_sl1b, y_sl1n, y_sl2v, y_sl2b, y_sl2n, v_isTT, v_isTI, v_isTB, v_isTS, v_isIT, v_isII, v_isIB, v_isIS, v_isBT, v_isBI, v_isBB, v_isBS, v_isST, v_isSI, v_isSB, v_isSS, v_isN, x_rev, x_join, x_fmt, x_fstr, x_zipS, y_rev, y_join1, y_join2, y_fmt, y_fstr, y_rtS, y_zipS1, y_zipS2, v_revL, x_callF, y_callF, List.getElem?_cons_zero, List.getElem?_cons_succ, List.set_cons_zero, List.set_cons_succ, decide_true, decide_false, Int.reduceEq, Int.reduceLT, Int.reduceLE, decide_eq_true_eq, Bool.not_true, Bool.not_false, if_true, if_false, Bool.false_eq_true, l__law_forms_0, pp, aa, inn, y_pure pin, y_comp hlr, cm, catR hml2 hzl]
        · rw [szq_app, szq_rev, kids_sz]
          omega
        · rw [List.getElem?_append_right (Nat.le_refl _), Nat.sub_self, List.map_append, List.map_reverse]; rfl
        · rw [List.getElem?_append_left hfl]; exact hmf2
        · intro q hq
          rcases List.mem_append.mp hq with hq | hq
          · exact hh' q hq
          · exact hkid q (List.mem_reverse.mp hq)
        · rw [szq_app, szq_rev, kids_sz, List.length_append]
          simp only [List.length_singleton]
          omega)
    (szq [([], k)]) turns [some (toK k), some (.ref m.length), some (.ref (m.length + 1)), none, none, none, none] (m ++ [.lst [.tup [.tup [], toK k]], .lst []]) ⟨[.lst [.tup [.tup [], toK k]], .lst []], m.length, m.length + 1, [([], k)], [], none, none, rfl, rfl, Nat.le_refl _, by omega, by omega, by simp [qD], by simp, by simpa using At.top, by simp, .inl (by simp), rfl, by simp [szq]⟩ (by simp only [szq, List.map_cons, List.map_nil, List.sum_cons, List.sum_nil, turns]; omega)
  obtain ⟨g, l, f, fs, a, b, h, hfm, h1, h2, h3⟩ := W
  refine ⟨fs, ?_, h2, fun p hp => ⟨h3 p hp, (okq p (h3 p hp)).2⟩⟩
  have el : (m ++ [MO.lst [.tup [.tup [], toK k]]]).length = m.length + 1 := by simp
  have ea : (m ++ [MO.lst [.tup [.tup [], toK k]]]) ++ [MO.lst []] = m ++ [MO.lst [.tup [.tup [], toK k]], MO.lst []] := by rw [List.append_assoc]; rfl
  have er : run tab G (n + 2) 10 [toK k] m = some (.ref f, m ++ g) := by
    rw [run__law_forms, r__law_forms]
    simp -implicitDefEqProofs only [x_var, y_var, x_con, x_glob, x_bin, x_neg, x_cmp, x_chain, x_isN, x_notN, x_and, x_and1, x_or, x_or1, x_not, x_ife, x_call, x_callP, x_bi, x_isi, x_listRg, x_ix, x_sl, x_tup, x_lst, x_comp, x_compIf, x_box, x_pop, x_popAt, x_append, x_nil, x_cons, x_seq, x_rng1, x_rng2, x_zip, x_asg, x_setix, x_aug, x_ex, x_if, x_for, x_while, x_ret, x_brk, x_cont, x_bnil, x_bcons, y_rt1, y_rtB, y_bin1, y_bin2, y_cmp1, y_cmp2, y_neg, y_isN, y_notN, y_andT, y_andF, y_orT, y_orF, y_not, y_ifT, y_ifF, y_chain1, y_chain2, y_chainT, y_chainF, y_chain3, y_cons1, y_cons2, y_call, y_callP, y_bi, y_isi, y_ix1, y_ix2, y_tup0, y_tup1, y_tup2, y_tup3, y_tup4, y_lst0, y_lst1, y_lst2, y_lst3, y_lc, y_box, y_pop, y_popAt1, y_popAt2, y_append1, y_append2, y_rtL, y_seq, y_seqT, y_seqL, y_rng21, y_zip1, y_zip2, y_zipT, y_zipL, y_rtE, y_asg, y_set1, y_set2, y_set3, y_aug, y_augA, y_augS, y_ex, y_ifST, y_ifSF, y_for, y_ret, y_nx, y_rt, y_bk, y_ct, y_fnR, y_fnN, y_nm, y_tp, y_tgn, y_tgc, y_tgk, v_add, v_sub, v_eqI, v_eqS, v_eqB, v_neI, v_neS, v_neB, v_lt, v_le, v_gt, v_ge, v_lenT, v_lenL, v_lenF, v_tupL, v_tupT, v_listL, v_listT, v_intI, v_intB, v_max, v_min, v_ixT, v_ixL, v_at0, v_at1, v_at2, y_lst4, y_lst5, y_lst6, y_lst7, y_tup5, y_tup6, y_sl1, y_sl1i, y_sl2, y_sl2i, y_sl3, v_slF, v_slL, v_slT, w_0, w_1, y_part, y_sl1v, y_sl1b, y_sl1n, y_sl2v, y_sl2b, y_sl2n, v_isTT, v_isTI, v_isTB, v_isTS, v_isIT, v_isII, v_isIB, v_isIS, v_isBT, v_isBI, v_isBB, v_isBS, v_isST, v_isSI, v_isSB, v_isSS, v_isN, x_rev, x_join, x_fmt, x_fstr, x_zipS, y_rev, y_join1, y_join2, y_fmt, y_fstr, y_rtS, y_zipS1, y_zipS2, v_revL, x_callF, y_callF, List.getElem?_cons_zero, List.getElem?_cons_succ, List.set_cons_zero, List.set_cons_succ, decide_true, decide_false, Int.reduceEq, Int.reduceLT, Int.reduceLE, decide_eq_true_eq, Bool.not_true, Bool.not_false, if_true, if_false, Bool.false_eq_true, b__law_forms, el, ea, x_while, h]
  rw [er]
  refine y_fresh h1 hfm rfl ?_ ?_
  · refine (pures_okN (n := 3 * kz k + 2) ?_).1
    intro d hd
    obtain ⟨p, hp, rfl⟩ := List.mem_map.mp hd
    exact (okq p (h3 p hp)).1
  · rw [← hm0]; exact bel_mem
end Lw

namespace Lw
open PySem Pv
theorem in_strsL {m : M} {ss : List Str} {x : Str} : ∃ b, cmpD m .isin (.str x) (.lst (ss.map .str)) = some b := by
  refine ⟨(ss.map D.str).any fun z => eqF z (.str x), ?_⟩
  show inD m (.str x) (.lst (ss.map .str)) = _
  have e : seqOf m (.lst (ss.map .str)) = some (ss.map .str) := rfl
  unfold inD
  rw [e]
  have : (flatD (.str x) && (ss.map D.str).all flatD) = true := by simp [flatD]
  simp only [this, if_true]
theorem b_not {c : Bool} : (if c = false then (1 : Int) else 0) = if c then 0 else 1 := by cases c <;> rfl
theorem turned_ok {G : List D} {n : Nat} {hs : List Str} (hh : ∀ x ∈ hs, nmOk x = true) (hl : hs.length ≤ 10) {h : Kd} (hw : wf h = true) (hz : kz h ≤ 200) (s : Dk) (ok : s.Ok) (hk : s.k + 2000 < 2 ^ 40) :
    ∃ h' s', run tab G (n + 4) 13 [.ref 1, toK h, .tup (hs.map .str)] (mem s []) = some (toK h', mem s' []) ∧ wf h' = true ∧ kz h' ≤ kz h + 1 ∧ s'.k ≤ s.k + 600 ∧ s'.Ok := by
  obtain ⟨ss, s1, e1, hsl, hss, k1, o1⟩ := names_ok (G := G) (n := n) 1 (by decide) s ok (by omega)
  obtain ⟨nm, rfl⟩ : ∃ nm, ss = [nm] := by
    match ss, hsl with
    | [x], _ => exact ⟨x, rfl⟩
  have hnm := hss nm (by simp)
  have e1 : kFresh (mem s []) (run tab G (n + 3) 6 [.ref 1, .int 1] (mem s [])) = some (.lst [.str nm], mem s1 []) := e1
  rw [run__law_turned, r__law_turned]
  have leaf : ∀ (w : Str) (t : List D) (x5 x6 x7 : Option D), ∃ h' s', kFn (evB (run tab G (n + 3)) G (.cons (.ret (.call 7 (.cons (.var 0) (.cons (.var 2) .nil)))) .nil) [some (.ref 1), some (.tup t), some (.tup (hs.map .str)), some (.str w), some (.str nm), x5, x6, x7] (mem s1 [])) = some (toK h', mem s' []) ∧ wf h' = true ∧ kz h' ≤ kz h + 1 ∧ s'.k ≤ s.k + 600 ∧ s'.Ok := by
    intro w t x5 x6 x7
    obtain ⟨k, s2, e2, w2, z2, k2, o2⟩ := leaf_ok (G := G) (n := n + 1) hh hl s1 o1 (by omega)
    have := kz_pos h
    exact ⟨k, s2, by simp -implicitDefEqProofs only [x_var, y_var, x_con, x_glob, x_bin, x_neg, x_cmp, x_chain, x_isN, x_notN, x_and, x_and1, x_or, x_or1, x_not, x_ife, x_call, x_callP, x_bi, x_isi, x_listRg, x_ix, x_sl, x_tup, x_lst, x_comp, x_compIf, x_box, x_pop, x_popAt, x_append, x_nil, x_cons, x_seq, x_rng1, x_rng2, x_zip, x_asg, x_setix, x_aug, x_ex, x_if, x_for, x_while, x_ret, x_brk, x_cont, x_bnil, x_bcons, y_rt1, y_rtB, y_bin1, y_bin2, y_cmp1, y_cmp2, y_neg, y_isN, y_notN, y_andT, y_andF, y_orT, y_orF, y_not, y_ifT, y_ifF, y_chain1, y_chain2, y_chainT, y_chainF, y_chain3, y_cons1, y_cons2, y_call, y_callP, y_bi, y_isi, y_ix1, y_ix2, y_tup0, y_tup1, y_tup2, y_tup3, y_tup4, y_lst0, y_lst1, y_lst2, y_lst3, y_lc, y_box, y_pop, y_popAt1, y_popAt2, y_append1, y_append2, y_rtL, y_seq, y_seqT, y_seqL, y_rng21, y_zip1, y_zip2, y_zipT, y_zipL, y_rtE, y_asg, y_set1, y_set2, y_set3, y_aug, y_augA, y_augS, y_ex, y_ifST, y_ifSF, y_for, y_ret, y_nx, y_rt, y_bk, y_ct, y_fnR, y_fnN, y_nm, y_tp, y_tgn, y_tgc, y_tgk, v_add, v_sub, v_eqI, v_eqS, v_eqB, v_neI, v_neS, v_neB, v_lt, v_le, v_gt, v_ge, v_lenT, v_lenL, v_lenF, v_tupL, v_tupT, v_listL, v_listT, v_intI, v_intB, v_max, v_min, v_ixT, v_ixL, v_at0, v_at1, v_at2, y_lst4, y_lst5, y_lst6, y_lst7, y_tup5, y_tup6, y_sl1, y_sl1i, y_sl2, y_sl2i, y_sl3, v_slF, v_slL, v_slT, w_0, w_1, y_part, y_sl1v, y_sl1b, y_sl1n, y_sl2v, y_sl2b, y_sl2n, v_isTT, v_isTI, v_isTB, v_isTS, v_isIT, v_isII, v_isIB, v_isIS, v_isBT, v_isBI, v_isBB, v_isBS, v_isST, v_isSI, v_isSB, v_isSS, v_isN, x_rev, x_join, x_fmt, x_fstr, x_zipS, y_rev, y_join1, y_join2, y_fmt, y_fstr, y_rtS, y_zipS1, y_zipS2, v_revL, x_callF, y_callF, List.getElem?_cons_zero, List.getElem?_cons_succ, List.set_cons_zero, List.set_cons_succ, decide_true, decide_false, Int.reduceEq, Int.reduceLT, Int.reduceLE, decide_eq_true_eq, Bool.not_true, Bool.not_false, if_true, if_false, Bool.false_eq_true, e2], w2, by omega, by omega, o2⟩
  match h, hw, hz with
  | .truth, _, _ =>
    obtain ⟨h', s2, e2, q⟩ := leaf "truth" [.str "truth"] none none none
    refine ⟨h', s2, ?_, q⟩
    rw [← e2]
    simp -implicitDefEqProofs only [x_var, y_var, x_con, x_glob, x_bin, x_neg, x_cmp, x_chain, x_isN, x_notN, x_and, x_and1, x_or, x_or1, x_not, x_ife, x_call, x_callP, x_bi, x_isi, x_listRg, x_ix, x_sl, x_tup, x_lst, x_comp, x_compIf, x_box, x_pop, x_popAt, x_append, x_nil, x_cons, x_seq, x_rng1, x_rng2, x_zip, x_asg, x_setix, x_aug, x_ex, x_if, x_for, x_while, x_ret, x_brk, x_cont, x_bnil, x_bcons, y_rt1, y_rtB, y_bin1, y_bin2, y_cmp1, y_cmp2, y_neg, y_isN, y_notN, y_andT, y_andF, y_orT, y_orF, y_not, y_ifT, y_ifF, y_chain1, y_chain2, y_chainT, y_chainF, y_chain3, y_cons1, y_cons2, y_call, y_callP, y_bi, y_isi, y_ix1, y_ix2, y_tup0, y_tup1, y_tup2, y_tup3, y_tup4, y_lst0, y_lst1, y_lst2, y_lst3, y_lc, y_box, y_pop, y_popAt1, y_popAt2, y_append1, y_append2, y_rtL, y_seq, y_seqT, y_seqL, y_rng21, y_zip1, y_zip2, y_zipT, y_zipL, y_rtE, y_asg, y_set1, y_set2, y_set3, y_aug, y_augA, y_augS, y_ex, y_ifST, y_ifSF, y_for, y_ret, y_nx, y_rt, y_bk, y_ct, y_fnR, y_fnN, y_nm, y_tp, y_tgn, y_tgc, y_tgk, v_add, v_sub, v_eqI, v_eqS, v_eqB, v_neI, v_neS, v_neB, v_lt, v_le, v_gt, v_ge, v_lenT, v_lenL, v_lenF, v_tupL, v_tupT, v_listL, v_listT, v_intI, v_intB, v_max, v_min, v_ixT, v_ixL, v_at0, v_at1, v_at2, y_lst4, y_lst5, y_lst6, y_lst7, y_tup5, y_tup6, y_sl1, y_sl1i, y_sl2, y_sl2i, y_sl3, v_slF, v_slL, v_slT, w_0, w_1, y_part, y_sl1v, y_sl1b, y_sl1n, y_sl2v, y_sl2b, y_sl2n, v_isTT, v_isTI, v_isTB, v_isTS, v_isIT, v_isII, v_isIB, v_isIS, v_isBT, v_isBI, v_isBB, v_isBS, v_isST, v_isSI, v_isSB, v_isSS, v_isN, x_rev, x_join, x_fmt, x_fstr, x_zipS, y_rev, y_join1, y_join2, y_fmt, y_fstr, y_rtS, y_zipS1, y_zipS2, v_revL, x_callF, y_callF, List.getElem?_cons_zero, List.getElem?_cons_succ, List.set_cons_zero, List.set_cons_succ, decide_true, decide_false, Int.reduceEq, Int.reduceLT, Int.reduceLE, decide_eq_true_eq, Bool.not_true, Bool.not_false, if_true, if_false, Bool.false_eq_true, b__law_turned, toK, e1, ofs_inj, String.reduceEq]
  | .hole x, _, _ =>
    refine ⟨.hole nm, s1, ?_, hnm, by simp [kz], by omega, o1⟩
    simp -implicitDefEqProofs only [x_var, y_var, x_con, x_glob, x_bin, x_neg, x_cmp, x_chain, x_isN, x_notN, x_and, x_and1, x_or, x_or1, x_not, x_ife, x_call, x_callP, x_bi, x_isi, x_listRg, x_ix, x_sl, x_tup, x_lst, x_comp, x_compIf, x_box, x_pop, x_popAt, x_append, x_nil, x_cons, x_seq, x_rng1, x_rng2, x_zip, x_asg, x_setix, x_aug, x_ex, x_if, x_for, x_while, x_ret, x_brk, x_cont, x_bnil, x_bcons, y_rt1, y_rtB, y_bin1, y_bin2, y_cmp1, y_cmp2, y_neg, y_isN, y_notN, y_andT, y_andF, y_orT, y_orF, y_not, y_ifT, y_ifF, y_chain1, y_chain2, y_chainT, y_chainF, y_chain3, y_cons1, y_cons2, y_call, y_callP, y_bi, y_isi, y_ix1, y_ix2, y_tup0, y_tup1, y_tup2, y_tup3, y_tup4, y_lst0, y_lst1, y_lst2, y_lst3, y_lc, y_box, y_pop, y_popAt1, y_popAt2, y_append1, y_append2, y_rtL, y_seq, y_seqT, y_seqL, y_rng21, y_zip1, y_zip2, y_zipT, y_zipL, y_rtE, y_asg, y_set1, y_set2, y_set3, y_aug, y_augA, y_augS, y_ex, y_ifST, y_ifSF, y_for, y_ret, y_nx, y_rt, y_bk, y_ct, y_fnR, y_fnN, y_nm, y_tp, y_tgn, y_tgc, y_tgk, v_add, v_sub, v_eqI, v_eqS, v_eqB, v_neI, v_neS, v_neB, v_lt, v_le, v_gt, v_ge, v_lenT, v_lenL, v_lenF, v_tupL, v_tupT, v_listL, v_listT, v_intI, v_intB, v_max, v_min, v_ixT, v_ixL, v_at0, v_at1, v_at2, y_lst4, y_lst5, y_lst6, y_lst7, y_tup5, y_tup6, y_sl1, y_sl1i, y_sl2, y_sl2i, y_sl3, v_slF, v_slL, v_slT, w_0, w_1, y_part, y_sl1v, y_sl1b, y_sl1n, y_sl2v, y_sl2b, y_sl2n, v_isTT, v_isTI, v_isTB, v_isTS, v_isIT, v_isII, v_isIB, v_isIS, v_isBT, v_isBI, v_isBB, v_isBS, v_isST, v_isSI, v_isSB, v_isSS, v_isN, x_rev, x_join, x_fmt, x_fstr, x_zipS, y_rev, y_join1, y_join2, y_fmt, y_fstr, y_rtS, y_zipS1, y_zipS2, v_revL, x_callF, y_callF, List.getElem?_cons_zero, List.getElem?_cons_succ, List.set_cons_zero, List.set_cons_succ, decide_true, decide_false, Int.reduceEq, Int.reduceLT, Int.reduceLE, decide_eq_true_eq, Bool.not_true, Bool.not_false, if_true, if_false, Bool.false_eq_true, b__law_turned, toK, e1, ofs_inj, String.reduceEq]
  | .num i b, hw, _ =>
    have hb : b < 100 := by simpa [wf] using hw
    obtain ⟨a, s2, e2, p2, q2, k2, o2⟩ := pick_run (G := G) (n := n + 2) s1 o1 (by omega) 2 (by decide) (by decide) []
    have m64 : ∀ m : M, bopD m .mod (.int (b : Int)) (.int 64) = some (.int ((b : Int) % 64)) := fun m => v_mod (by decide)
    have ec : (1 : Int) + (b : Int) % 64 = ((1 + b % 64 : Nat) : Int) := by omega
    obtain ⟨x, ex, h', rfl, w', z'⟩ := at_any (P := fun x => ∃ h', x = toK h' ∧ wf h' = true ∧ kz h' = 1) (l := [.tup [.str (wNum i), .int ((1 + b % 64 : Nat) : Int)], .tup [.str (wNum (!i)), .int (b : Int)]]) (by
      intro x hx
      simp only [List.mem_cons, List.not_mem_nil, or_false] at hx
      rcases hx with rfl | rfl
      · exact ⟨.num i (1 + b % 64), by rw [toK], by simp only [wf, decide_eq_true_eq]; omega, rfl⟩
      · exact ⟨.num (!i) b, by rw [toK], by simpa [wf] using hb, rfl⟩) p2 q2
    refine ⟨h', s2, ?_, w', by simp only [kz]; omega, by omega, o2⟩
    have a0 : atD [.str "nat", .str "int"] 0 = some (.str "nat") := v_at0
    have a1 : atD [.str "nat", .str "int"] 1 = some (.str "int") := v_at1
    cases i
    · simp only [Bool.not_false, wNum_t, wNum_f] at ex
      simp -implicitDefEqProofs only [x_var, y_var, x_con, x_glob, x_bin, x_neg, x_cmp, x_chain, x_isN, x_notN, x_and, x_and1, x_or, x_or1, x_not, x_ife, x_call, x_callP, x_bi, x_isi, x_listRg, x_ix, x_sl, x_tup, x_lst, x_comp, x_compIf, x_box, x_pop, x_popAt, x_append, x_nil, x_cons, x_seq, x_rng1, x_rng2, x_zip, x_asg, x_setix, x_aug, x_ex, x_if, x_for, x_while, x_ret, x_brk, x_cont, x_bnil, x_bcons, y_rt1, y_rtB, y_bin1, y_bin2, y_cmp1, y_cmp2, y_neg, y_isN, y_notN, y_andT, y_andF, y_orT, y_orF, y_not, y_ifT, y_ifF, y_chain1, y_chain2, y_chainT, y_chainF, y_chain3, y_cons1, y_cons2, y_call, y_callP, y_bi, y_isi, y_ix1, y_ix2, y_tup0, y_tup1, y_tup2, y_tup3, y_tup4, y_lst0, y_lst1, y_lst2, y_lst3, y_lc, y_box, y_pop, y_popAt1, y_popAt2, y_append1, y_append2, y_rtL, y_seq, y_seqT, y_seqL, y_rng21, y_zip1, y_zip2, y_zipT, y_zipL, y_rtE, y_asg, y_set1, y_set2, y_set3, y_aug, y_augA, y_augS, y_ex, y_ifST, y_ifSF, y_for, y_ret, y_nx, y_rt, y_bk, y_ct, y_fnR, y_fnN, y_nm, y_tp, y_tgn, y_tgc, y_tgk, v_add, v_sub, v_eqI, v_eqS, v_eqB, v_neI, v_neS, v_neB, v_lt, v_le, v_gt, v_ge, v_lenT, v_lenL, v_lenF, v_tupL, v_tupT, v_listL, v_listT, v_intI, v_intB, v_max, v_min, v_ixT, v_ixL, v_at0, v_at1, v_at2, y_lst4, y_lst5, y_lst6, y_lst7, y_tup5, y_tup6, y_sl1, y_sl1i, y_sl2, y_sl2i, y_sl3, v_slF, v_slL, v_slT, w_0, w_1, y_part, y_sl1v, y_sl1b, y_sl1n, y_sl2v, y_sl2b, y_sl2n, v_isTT, v_isTI, v_isTB, v_isTS, v_isIT, v_isII, v_isIB, v_isIS, v_isBT, v_isBI, v_isBB, v_isBS, v_isST, v_isSI, v_isSB, v_isSS, v_isN, x_rev, x_join, x_fmt, x_fstr, x_zipS, y_rev, y_join1, y_join2, y_fmt, y_fstr, y_rtS, y_zipS1, y_zipS2, v_revL, x_callF, y_callF, List.getElem?_cons_zero, List.getElem?_cons_succ, List.set_cons_zero, List.set_cons_succ, decide_true, decide_false, Int.reduceEq, Int.reduceLT, Int.reduceLE, decide_eq_true_eq, Bool.not_true, Bool.not_false, if_true, if_false, Bool.false_eq_true, b__law_turned, toK, wNum_f, e1, ofs_inj, String.reduceEq, m64, ec, if_true, a1, e2, ex]
    · simp only [Bool.not_true, wNum_t, wNum_f] at ex
      simp -implicitDefEqProofs only [x_var, y_var, x_con, x_glob, x_bin, x_neg, x_cmp, x_chain, x_isN, x_notN, x_and, x_and1, x_or, x_or1, x_not, x_ife, x_call, x_callP, x_bi, x_isi, x_listRg, x_ix, x_sl, x_tup, x_lst, x_comp, x_compIf, x_box, x_pop, x_popAt, x_append, x_nil, x_cons, x_seq, x_rng1, x_rng2, x_zip, x_asg, x_setix, x_aug, x_ex, x_if, x_for, x_while, x_ret, x_brk, x_cont, x_bnil, x_bcons, y_rt1, y_rtB, y_bin1, y_bin2, y_cmp1, y_cmp2, y_neg, y_isN, y_notN, y_andT, y_andF, y_orT, y_orF, y_not, y_ifT, y_ifF, y_chain1, y_chain2, y_chainT, y_chainF, y_chain3, y_cons1, y_cons2, y_call, y_callP, y_bi, y_isi, y_ix1, y_ix2, y_tup0, y_tup1, y_tup2, y_tup3, y_tup4, y_lst0, y_lst1, y_lst2, y_lst3, y_lc, y_box, y_pop, y_popAt1, y_popAt2, y_append1, y_append2, y_rtL, y_seq, y_seqT, y_seqL, y_rng21, y_zip1, y_zip2, y_zipT, y_zipL, y_rtE, y_asg, y_set1, y_set2, y_set3, y_aug, y_augA, y_augS, y_ex, y_ifST, y_ifSF, y_for, y_ret, y_nx, y_rt, y_bk, y_ct, y_fnR, y_fnN, y_nm, y_tp, y_tgn, y_tgc, y_tgk, v_add, v_sub, v_eqI, v_eqS, v_eqB, v_neI, v_neS, v_neB, v_lt, v_le, v_gt, v_ge, v_lenT, v_lenL, v_lenF, v_tupL, v_tupT, v_listL, v_listT, v_intI, v_intB, v_max, v_min, v_ixT, v_ixL, v_at0, v_at1, v_at2, y_lst4, y_lst5, y_lst6, y_lst7, y_tup5, y_tup6, y_sl1, y_sl1i, y_sl2, y_sl2i, y_sl3, v_slF, v_slL, v_slT, w_0, w_1, y_part, y_sl1v, y_sl1b, y_sl1n, y_sl2v, y_sl2b, y_sl2n, v_isTT, v_isTI, v_isTB, v_isTS, v_isIT, v_isII, v_isIB, v_isIS, v_isBT, v_isBI, v_isBB, v_isBS, v_isST, v_isSI, v_isSB, v_isSS, v_isN, x_rev, x_join, x_fmt, x_fstr, x_zipS, y_rev, y_join1, y_join2, y_fmt, y_fstr, y_rtS, y_zipS1, y_zipS2, v_revL, x_callF, y_callF, List.getElem?_cons_zero, List.getElem?_cons_succ, List.set_cons_zero, List.set_cons_succ, decide_true, decide_false, Int.reduceEq, Int.reduceLT, Int.reduceLE, decide_eq_true_eq, Bool.not_true, Bool.not_false, if_true, if_false, Bool.false_eq_true, b__law_turned, toK, wNum_t, e1, ofs_inj, String.reduceEq, m64, ec, if_false, Bool.false_eq_true, a0, e2, ex]
  | .row c k, hw, _ =>
    simp only [wf, Bool.and_eq_true, decide_eq_true_eq] at hw
    have m16 : ∀ m : M, bopD m .mod (.int (c : Int)) (.int 16) = some (.int ((c : Int) % 16)) := fun m => v_mod (by decide)
    have ec : (1 : Int) + (c : Int) % 16 = ((1 + c % 16 : Nat) : Int) := by omega
    refine ⟨.row (1 + c % 16) k, s1, ?_, by simp only [wf, hw.2, Bool.and_true, decide_eq_true_eq]; omega, by simp only [kz]; omega, by omega, o1⟩
    simp -implicitDefEqProofs only [x_var, y_var, x_con, x_glob, x_bin, x_neg, x_cmp, x_chain, x_isN, x_notN, x_and, x_and1, x_or, x_or1, x_not, x_ife, x_call, x_callP, x_bi, x_isi, x_listRg, x_ix, x_sl, x_tup, x_lst, x_comp, x_compIf, x_box, x_pop, x_popAt, x_append, x_nil, x_cons, x_seq, x_rng1, x_rng2, x_zip, x_asg, x_setix, x_aug, x_ex, x_if, x_for, x_while, x_ret, x_brk, x_cont, x_bnil, x_bcons, y_rt1, y_rtB, y_bin1, y_bin2, y_cmp1, y_cmp2, y_neg, y_isN, y_notN, y_andT, y_andF, y_orT, y_orF, y_not, y_ifT, y_ifF, y_chain1, y_chain2, y_chainT, y_chainF, y_chain3, y_cons1, y_cons2, y_call, y_callP, y_bi, y_isi, y_ix1, y_ix2, y_tup0, y_tup1, y_tup2, y_tup3, y_tup4, y_lst0, y_lst1, y_lst2, y_lst3, y_lc, y_box, y_pop, y_popAt1, y_popAt2, y_append1, y_append2, y_rtL, y_seq, y_seqT, y_seqL, y_rng21, y_zip1, y_zip2, y_zipT, y_zipL, y_rtE, y_asg, y_set1, y_set2, y_set3, y_aug, y_augA, y_augS, y_ex, y_ifST, y_ifSF, y_for, y_ret, y_nx, y_rt, y_bk, y_ct, y_fnR, y_fnN, y_nm, y_tp, y_tgn, y_tgc, y_tgk, v_add, v_sub, v_eqI, v_eqS, v_eqB, v_neI, v_neS, v_neB, v_lt, v_le, v_gt, v_ge, v_lenT, v_lenL, v_lenF, v_tupL, v_tupT, v_listL, v_listT, v_intI, v_intB, v_max, v_min, v_ixT, v_ixL, v_at0, v_at1, v_at2, y_lst4, y_lst5, y_lst6, y_lst7, y_tup5, y_tup6, y_sl1, y_sl1i, y_sl2, y_sl2i, y_sl3, v_slF, v_slL, v_slT, w_0, w_1, y_part, y_sl1v, y_sl1b, y_sl1n, y_sl2v, y_sl2b, y_sl2n, v_isTT, v_isTI, v_isTB, v_isTS, v_isIT, v_isII, v_isIB, v_isIS, v_isBT, v_isBI, v_isBB, v_isBS, v_isST, v_isSI, v_isSB, v_isSS, v_isN, x_rev, x_join, x_fmt, x_fstr, x_zipS, y_rev, y_join1, y_join2, y_fmt, y_fstr, y_rtS, y_zipS1, y_zipS2, v_revL, x_callF, y_callF, List.getElem?_cons_zero, List.getElem?_cons_succ, List.set_cons_zero, List.set_cons_succ, decide_true, decide_false, Int.reduceEq, Int.reduceLT, Int.reduceLE, decide_eq_true_eq, Bool.not_true, Bool.not_false, if_true, if_false, Bool.false_eq_true, b__law_turned, toK, e1, ofs_inj, String.reduceEq, m16, ec]
  | .wrap b k, hw, _ =>
    refine ⟨.wrap (!b) k, s1, ?_, hw, by simp only [kz]; omega, by omega, o1⟩
    have a0 : atD [.str "maybe", .str "box"] 0 = some (.str "maybe") := v_at0
    have a1 : atD [.str "maybe", .str "box"] 1 = some (.str "box") := v_at1
    cases b
    · simp -implicitDefEqProofs only [x_var, y_var, x_con, x_glob, x_bin, x_neg, x_cmp, x_chain, x_isN, x_notN, x_and, x_and1, x_or, x_or1, x_not, x_ife, x_call, x_callP, x_bi, x_isi, x_listRg, x_ix, x_sl, x_tup, x_lst, x_comp, x_compIf, x_box, x_pop, x_popAt, x_append, x_nil, x_cons, x_seq, x_rng1, x_rng2, x_zip, x_asg, x_setix, x_aug, x_ex, x_if, x_for, x_while, x_ret, x_brk, x_cont, x_bnil, x_bcons, y_rt1, y_rtB, y_bin1, y_bin2, y_cmp1, y_cmp2, y_neg, y_isN, y_notN, y_andT, y_andF, y_orT, y_orF, y_not, y_ifT, y_ifF, y_chain1, y_chain2, y_chainT, y_chainF, y_chain3, y_cons1, y_cons2, y_call, y_callP, y_bi, y_isi, y_ix1, y_ix2, y_tup0, y_tup1, y_tup2, y_tup3, y_tup4, y_lst0, y_lst1, y_lst2, y_lst3, y_lc, y_box, y_pop, y_popAt1, y_popAt2, y_append1, y_append2, y_rtL, y_seq, y_seqT, y_seqL, y_rng21, y_zip1, y_zip2, y_zipT, y_zipL, y_rtE, y_asg, y_set1, y_set2, y_set3, y_aug, y_augA, y_augS, y_ex, y_ifST, y_ifSF, y_for, y_ret, y_nx, y_rt, y_bk, y_ct, y_fnR, y_fnN, y_nm, y_tp, y_tgn, y_tgc, y_tgk, v_add, v_sub, v_eqI, v_eqS, v_eqB, v_neI, v_neS, v_neB, v_lt, v_le, v_gt, v_ge, v_lenT, v_lenL, v_lenF, v_tupL, v_tupT, v_listL, v_listT, v_intI, v_intB, v_max, v_min, v_ixT, v_ixL, v_at0, v_at1, v_at2, y_lst4, y_lst5, y_lst6, y_lst7, y_tup5, y_tup6, y_sl1, y_sl1i, y_sl2, y_sl2i, y_sl3, v_slF, v_slL, v_slT, w_0, w_1, y_part, y_sl1v, y_sl1b, y_sl1n, y_sl2v, y_sl2b, y_sl2n, v_isTT, v_isTI, v_isTB, v_isTS, v_isIT, v_isII, v_isIB, v_isIS, v_isBT, v_isBI, v_isBB, v_isBS, v_isST, v_isSI, v_isSB, v_isSS, v_isN, x_rev, x_join, x_fmt, x_fstr, x_zipS, y_rev, y_join1, y_join2, y_fmt, y_fstr, y_rtS, y_zipS1, y_zipS2, v_revL, x_callF, y_callF, List.getElem?_cons_zero, List.getElem?_cons_succ, List.set_cons_zero, List.set_cons_succ, decide_true, decide_false, Int.reduceEq, Int.reduceLT, Int.reduceLE, decide_eq_true_eq, Bool.not_true, Bool.not_false, if_true, if_false, Bool.false_eq_true, b__law_turned, toK, wWrap_f, wWrap_t, Bool.not_false, e1, ofs_inj, String.reduceEq, if_true, a1]
    · simp -implicitDefEqProofs only [x_var, y_var, x_con, x_glob, x_bin, x_neg, x_cmp, x_chain, x_isN, x_notN, x_and, x_and1, x_or, x_or1, x_not, x_ife, x_call, x_callP, x_bi, x_isi, x_listRg, x_ix, x_sl, x_tup, x_lst, x_comp, x_compIf, x_box, x_pop, x_popAt, x_append, x_nil, x_cons, x_seq, x_rng1, x_rng2, x_zip, x_asg, x_setix, x_aug, x_ex, x_if, x_for, x_while, x_ret, x_brk, x_cont, x_bnil, x_bcons, y_rt1, y_rtB, y_bin1, y_bin2, y_cmp1, y_cmp2, y_neg, y_isN, y_notN, y_andT, y_andF, y_orT, y_orF, y_not, y_ifT, y_ifF, y_chain1, y_chain2, y_chainT, y_chainF, y_chain3, y_cons1, y_cons2, y_call, y_callP, y_bi, y_isi, y_ix1, y_ix2, y_tup0, y_tup1, y_tup2, y_tup3, y_tup4, y_lst0, y_lst1, y_lst2, y_lst3, y_lc, y_box, y_pop, y_popAt1, y_popAt2, y_append1, y_append2, y_rtL, y_seq, y_seqT, y_seqL, y_rng21, y_zip1, y_zip2, y_zipT, y_zipL, y_rtE, y_asg, y_set1, y_set2, y_set3, y_aug, y_augA, y_augS, y_ex, y_ifST, y_ifSF, y_for, y_ret, y_nx, y_rt, y_bk, y_ct, y_fnR, y_fnN, y_nm, y_tp, y_tgn, y_tgc, y_tgk, v_add, v_sub, v_eqI, v_eqS, v_eqB, v_neI, v_neS, v_neB, v_lt, v_le, v_gt, v_ge, v_lenT, v_lenL, v_lenF, v_tupL, v_tupT, v_listL, v_listT, v_intI, v_intB, v_max, v_min, v_ixT, v_ixL, v_at0, v_at1, v_at2, y_lst4, y_lst5, y_lst6, y_lst7, y_tup5, y_tup6, y_sl1, y_sl1i, y_sl2, y_sl2i, y_sl3, v_slF, v_slL, v_slT, w_0, w_1, y_part, y_sl1v, y_sl1b, y_sl1n, y_sl2v, y_sl2b, y_sl2n, v_isTT, v_isTI, v_isTB, v_isTS, v_isIT, v_isII, v_isIB, v_isIS, v_isBT, v_isBI, v_isBB, v_isBS, v_isST, v_isSI, v_isSB, v_isSS, v_isN, x_rev, x_join, x_fmt, x_fstr, x_zipS, y_rev, y_join1, y_join2, y_fmt, y_fstr, y_rtS, y_zipS1, y_zipS2, v_revL, x_callF, y_callF, List.getElem?_cons_zero, List.getElem?_cons_succ, List.set_cons_zero, List.set_cons_succ, decide_true, decide_false, Int.reduceEq, Int.reduceLT, Int.reduceLE, decide_eq_true_eq, Bool.not_true, Bool.not_false, if_true, if_false, Bool.false_eq_true, b__law_turned, toK, wWrap_t, wWrap_f, Bool.not_true, e1, ofs_inj, String.reduceEq, if_false, Bool.false_eq_true, a0]
  | .use x fs, hw, hz =>
    simp only [wf, Bool.and_eq_true] at hw
    simp only [kz] at hz
    obtain ⟨a, s2, e2, p2, q2, k2, o2⟩ := pick_run (G := G) (n := n + 2) s1 o1 (by omega) 2 (by decide) (by decide) []
    have hkl := (ktx_len (ps := fs)).2
    have et : (D.tup [.str "truth"]) = toK .truth := by rw [toK]
    obtain ⟨y, ey, h', rfl, w', z'⟩ := at_any (P := fun x => ∃ h', x = toK h' ∧ wf h' = true ∧ kz h' ≤ 1 + fz fs + 1) (l := [.tup [.str "use", .str nm, .tup (ksD fs)], .tup [.str "use", .str x, .tup (ksD fs ++ [.tup [.str "truth"]])]]) (by
      intro y hy
      simp only [List.mem_cons, List.not_mem_nil, or_false] at hy
      rcases hy with rfl | rfl
      · exact ⟨.use nm fs, by rw [toK], by simp only [wf, hnm, hw.2, Bool.and_self], by simp only [kz]; omega⟩
      · refine ⟨.use x (Ks.of (fs.ls ++ [.truth])), ?_, ?_, ?_⟩
        · rw [toK, of_ksD, List.map_append, ls_ksD, et]; rfl
        · simp only [wf, hw.1, Bool.true_and]
          refine of_wfk fun p hp => ?_
          rcases List.mem_append.mp hp with hp | hp
          · exact ls_wfk hw.2 p hp
          · rw [List.mem_singleton.mp hp]; rfl
        · simp only [kz, fz_of, lzk, List.map_append, List.sum_append]
          rw [fz_ls]
          simp only [lzk, List.map_cons, List.map_nil, List.sum_cons, List.sum_nil, kz]
          omega) p2 q2
    refine ⟨h', s2, ?_, w', by simp only [kz]; omega, by omega, o2⟩
    simp -implicitDefEqProofs only [x_var, y_var, x_con, x_glob, x_bin, x_neg, x_cmp, x_chain, x_isN, x_notN, x_and, x_and1, x_or, x_or1, x_not, x_ife, x_call, x_callP, x_bi, x_isi, x_listRg, x_ix, x_sl, x_tup, x_lst, x_comp, x_compIf, x_box, x_pop, x_popAt, x_append, x_nil, x_cons, x_seq, x_rng1, x_rng2, x_zip, x_asg, x_setix, x_aug, x_ex, x_if, x_for, x_while, x_ret, x_brk, x_cont, x_bnil, x_bcons, y_rt1, y_rtB, y_bin1, y_bin2, y_cmp1, y_cmp2, y_neg, y_isN, y_notN, y_andT, y_andF, y_orT, y_orF, y_not, y_ifT, y_ifF, y_chain1, y_chain2, y_chainT, y_chainF, y_chain3, y_cons1, y_cons2, y_call, y_callP, y_bi, y_isi, y_ix1, y_ix2, y_tup0, y_tup1, y_tup2, y_tup3, y_tup4, y_lst0, y_lst1, y_lst2, y_lst3, y_lc, y_box, y_pop, y_popAt1, y_popAt2, y_append1, y_append2, y_rtL, y_seq, y_seqT, y_seqL, y_rng21, y_zip1, y_zip2, y_zipT, y_zipL, y_rtE, y_asg, y_set1, y_set2, y_set3, y_aug, y_augA, y_augS, y_ex, y_ifST, y_ifSF, y_for, y_ret, y_nx, y_rt, y_bk, y_ct, y_fnR, y_fnN, y_nm, y_tp, y_tgn, y_tgc, y_tgk, v_add, v_sub, v_eqI, v_eqS, v_eqB, v_neI, v_neS, v_neB, v_lt, v_le, v_gt, v_ge, v_lenT, v_lenL, v_lenF, v_tupL, v_tupT, v_listL, v_listT, v_intI, v_intB, v_max, v_min, v_ixT, v_ixL, v_at0, v_at1, v_at2, y_lst4, y_lst5, y_lst6, y_lst7, y_tup5, y_tup6, y_sl1, y_sl1i, y_sl2, y_sl2i, y_sl3, v_slF, v_slL, v_slT, w_0, w_1, y_part, y_sl1v, y_sl1b, y_sl1n, y_sl2v, y_sl2b, y_sl2n, v_isTT, v_isTI, v_isTB, v_isTS, v_isIT, v_isII, v_isIB, v_isIS, v_isBT, v_isBI, v_isBB, v_isBS, v_isST, v_isSI, v_isSB, v_isSS, v_isN, x_rev, x_join, x_fmt, x_fstr, x_zipS, y_rev, y_join1, y_join2, y_fmt, y_fstr, y_rtS, y_zipS1, y_zipS2, v_revL, x_callF, y_callF, List.getElem?_cons_zero, List.getElem?_cons_succ, List.set_cons_zero, List.set_cons_succ, decide_true, decide_false, Int.reduceEq, Int.reduceLT, Int.reduceLE, decide_eq_true_eq, Bool.not_true, Bool.not_false, if_true, if_false, Bool.false_eq_true, b__law_turned, toK, e1, ofs_inj, String.reduceEq, v_catT (show (ksD fs).length + [D.tup [.str "truth"]].length ≤ lim from lim10 (by simp; omega)), e2, ey]
  | .rcd v ps, hw, hz =>
    have hw : wfp ps = true := by simpa [wf] using hw
    simp only [kz] at hz
    have hpl := szl (l := ps.ls)
    rw [← pz_ls] at hpl
    by_cases hp0 : ps.ls = []
    · obtain ⟨h', s2, e2, q⟩ := leaf (wRec v) [.str (wRec v), .tup (psD ps)] none none none
      refine ⟨h', s2, ?_, q⟩
      rw [← e2]
      have l0 : ((0 : Int) < ((psD ps).length : Int)) = False := by rw [ls_psD, hp0]; simp
      cases v
      · simp -implicitDefEqProofs only [x_var, y_var, x_con, x_glob, x_bin, x_neg, x_cmp, x_chain, x_isN, x_notN, x_and, x_and1, x_or, x_or1, x_not, x_ife, x_call, x_callP, x_bi, x_isi, x_listRg, x_ix, x_sl, x_tup, x_lst, x_comp, x_compIf, x_box, x_pop, x_popAt, x_append, x_nil, x_cons, x_seq, x_rng1, x_rng2, x_zip, x_asg, x_setix, x_aug, x_ex, x_if, x_for, x_while, x_ret, x_brk, x_cont, x_bnil, x_bcons, y_rt1, y_rtB, y_bin1, y_bin2, y_cmp1, y_cmp2, y_neg, y_isN, y_notN, y_andT, y_andF, y_orT, y_orF, y_not, y_ifT, y_ifF, y_chain1, y_chain2, y_chainT, y_chainF, y_chain3, y_cons1, y_cons2, y_call, y_callP, y_bi, y_isi, y_ix1, y_ix2, y_tup0, y_tup1, y_tup2, y_tup3, y_tup4, y_lst0, y_lst1, y_lst2, y_lst3, y_lc, y_box, y_pop, y_popAt1, y_popAt2, y_append1, y_append2, y_rtL, y_seq, y_seqT, y_seqL, y_rng21, y_zip1, y_zip2, y_zipT, y_zipL, y_rtE, y_asg, y_set1, y_set2, y_set3, y_aug, y_augA, y_augS, y_ex, y_ifST, y_ifSF, y_for, y_ret, y_nx, y_rt, y_bk, y_ct, y_fnR, y_fnN, y_nm, y_tp, y_tgn, y_tgc, y_tgk, v_add, v_sub, v_eqI, v_eqS, v_eqB, v_neI, v_neS, v_neB, v_lt, v_le, v_gt, v_ge, v_lenT, v_lenL, v_lenF, v_tupL, v_tupT, v_listL, v_listT, v_intI, v_intB, v_max, v_min, v_ixT, v_ixL, v_at0, v_at1, v_at2, y_lst4, y_lst5, y_lst6, y_lst7, y_tup5, y_tup6, y_sl1, y_sl1i, y_sl2, y_sl2i, y_sl3, v_slF, v_slL, v_slT, w_0, w_1, y_part, y_sl1v, y_sl1b, y_sl1n, y_sl2v, y_sl2b, y_sl2n, v_isTT, v_isTI, v_isTB, v_isTS, v_isIT, v_isII, v_isIB, v_isIS, v_isBT, v_isBI, v_isBB, v_isBS, v_isST, v_isSI, v_isSB, v_isSS, v_isN, x_rev, x_join, x_fmt, x_fstr, x_zipS, y_rev, y_join1, y_join2, y_fmt, y_fstr, y_rtS, y_zipS1, y_zipS2, v_revL, x_callF, y_callF, List.getElem?_cons_zero, List.getElem?_cons_succ, List.set_cons_zero, List.set_cons_succ, decide_true, decide_false, Int.reduceEq, Int.reduceLT, Int.reduceLE, decide_eq_true_eq, Bool.not_true, Bool.not_false, if_true, if_false, Bool.false_eq_true, b__law_turned, toK, wRec_f, e1, ofs_inj, String.reduceEq, l0]
      · simp -implicitDefEqProofs only [x_var, y_var, x_con, x_glob, x_bin, x_neg, x_cmp, x_chain, x_isN, x_notN, x_and, x_and1, x_or, x_or1, x_not, x_ife, x_call, x_callP, x_bi, x_isi, x_listRg, x_ix, x_sl, x_tup, x_lst, x_comp, x_compIf, x_box, x_pop, x_popAt, x_append, x_nil, x_cons, x_seq, x_rng1, x_rng2, x_zip, x_asg, x_setix, x_aug, x_ex, x_if, x_for, x_while, x_ret, x_brk, x_cont, x_bnil, x_bcons, y_rt1, y_rtB, y_bin1, y_bin2, y_cmp1, y_cmp2, y_neg, y_isN, y_notN, y_andT, y_andF, y_orT, y_orF, y_not, y_ifT, y_ifF, y_chain1, y_chain2, y_chainT, y_chainF, y_chain3, y_cons1, y_cons2, y_call, y_callP, y_bi, y_isi, y_ix1, y_ix2, y_tup0, y_tup1, y_tup2, y_tup3, y_tup4, y_lst0, y_lst1, y_lst2, y_lst3, y_lc, y_box, y_pop, y_popAt1, y_popAt2, y_append1, y_append2, y_rtL, y_seq, y_seqT, y_seqL, y_rng21, y_zip1, y_zip2, y_zipT, y_zipL, y_rtE, y_asg, y_set1, y_set2, y_set3, y_aug, y_augA, y_augS, y_ex, y_ifST, y_ifSF, y_for, y_ret, y_nx, y_rt, y_bk, y_ct, y_fnR, y_fnN, y_nm, y_tp, y_tgn, y_tgc, y_tgk, v_add, v_sub, v_eqI, v_eqS, v_eqB, v_neI, v_neS, v_neB, v_lt, v_le, v_gt, v_ge, v_lenT, v_lenL, v_lenF, v_tupL, v_tupT, v_listL, v_listT, v_intI, v_intB, v_max, v_min, v_ixT, v_ixL, v_at0, v_at1, v_at2, y_lst4, y_lst5, y_lst6, y_lst7, y_tup5, y_tup6, y_sl1, y_sl1i, y_sl2, y_sl2i, y_sl3, v_slF, v_slL, v_slT, w_0, w_1, y_part, y_sl1v, y_sl1b, y_sl1n, y_sl2v, y_sl2b, y_sl2n, v_isTT, v_isTI, v_isTB, v_isTS, v_isIT, v_isII, v_isIB, v_isIS, v_isBT, v_isBI, v_isBB, v_isBS, v_isST, v_isSI, v_isSB, v_isSS, v_isN, x_rev, x_join, x_fmt, x_fstr, x_zipS, y_rev, y_join1, y_join2, y_fmt, y_fstr, y_rtS, y_zipS1, y_zipS2, v_revL, x_callF, y_callF, List.getElem?_cons_zero, List.getElem?_cons_succ, List.set_cons_zero, List.set_cons_succ, decide_true, decide_false, Int.reduceEq, Int.reduceLT, Int.reduceLE, decide_eq_true_eq, Bool.not_true, Bool.not_false, if_true, if_false, Bool.false_eq_true, b__law_turned, toK, wRec_t, e1, ofs_inj, String.reduceEq, l0]
    · have hpos : 0 < ps.ls.length := List.length_pos_iff.mpr hp0
      have epl : (psD ps).length = ps.ls.length := by rw [ls_psD, List.length_map]
      have l0 : ((0 : Int) < ((psD ps).length : Int)) = True := by rw [epl]; simp only [eq_iff_iff, iff_true]; omega
      obtain ⟨a, s2, e2, p2, q2, k2, o2⟩ := pick_run (G := G) (n := n + 2) s1 o1 (by omega) ((psD ps).length : Int) (by omega) (by omega) []
      obtain ⟨a, rfl⟩ := Int.eq_ofNat_of_zero_le p2
      have ha : a < ps.ls.length := by omega
      obtain ⟨b, s3, e3, p3, q3, k3, o3⟩ := pick_run (G := G) (n := n + 2) s2 o2 (by omega) 3 (by decide) (by decide) []
      have a0 : atD [.str "record", .str "variant"] 0 = some (.str "record") := v_at0
      have a1 : atD [.str "record", .str "variant"] 1 = some (.str "variant") := v_at1
      have sw : wf (.rcd (!v) ps) = true ∧ kz (.rcd (!v) ps) ≤ kz (.rcd v ps) + 1 ∧ s3.k ≤ s.k + 600 ∧ s3.Ok := ⟨by simpa [wf] using hw, by simp only [kz]; omega, by omega, o3⟩
      by_cases hb : b = 0
      · refine ⟨.rcd (!v) ps, s3, ?_, sw⟩
        subst hb
        cases v
        · simp -implicitDefEqProofs only [x_var, y_var, x_con, x_glob, x_bin, x_neg, x_cmp, x_chain, x_isN, x_notN, x_and, x_and1, x_or, x_or1, x_not, x_ife, x_call, x_callP, x_bi, x_isi, x_listRg, x_ix, x_sl, x_tup, x_lst, x_comp, x_compIf, x_box, x_pop, x_popAt, x_append, x_nil, x_cons, x_seq, x_rng1, x_rng2, x_zip, x_asg, x_setix, x_aug, x_ex, x_if, x_for, x_while, x_ret, x_brk, x_cont, x_bnil, x_bcons, y_rt1, y_rtB, y_bin1, y_bin2, y_cmp1, y_cmp2, y_neg, y_isN, y_notN, y_andT, y_andF, y_orT, y_orF, y_not, y_ifT, y_ifF, y_chain1, y_chain2, y_chainT, y_chainF, y_chain3, y_cons1, y_cons2, y_call, y_callP, y_bi, y_isi, y_ix1, y_ix2, y_tup0, y_tup1, y_tup2, y_tup3, y_tup4, y_lst0, y_lst1, y_lst2, y_lst3, y_lc, y_box, y_pop, y_popAt1, y_popAt2, y_append1, y_append2, y_rtL, y_seq, y_seqT, y_seqL, y_rng21, y_zip1, y_zip2, y_zipT, y_zipL, y_rtE, y_asg, y_set1, y_set2, y_set3, y_aug, y_augA, y_augS, y_ex, y_ifST, y_ifSF, y_for, y_ret, y_nx, y_rt, y_bk, y_ct, y_fnR, y_fnN, y_nm, y_tp, y_tgn, y_tgc, y_tgk, v_add, v_sub, v_eqI, v_eqS, v_eqB, v_neI, v_neS, v_neB, v_lt, v_le, v_gt, v_ge, v_lenT, v_lenL, v_lenF, v_tupL, v_tupT, v_listL, v_listT, v_intI, v_intB, v_max, v_min, v_ixT, v_ixL, v_at0, v_at1, v_at2, y_lst4, y_lst5, y_lst6, y_lst7, y_tup5, y_tup6, y_sl1, y_sl1i, y_sl2, y_sl2i, y_sl3, v_slF, v_slL, v_slT, w_0, w_1, y_part, y_sl1v, y_sl1b, y_sl1n, y_sl2v, y_sl2b, y_sl2n, v_isTT, v_isTI, v_isTB, v_isTS, v_isIT, v_isII, v_isIB, v_isIS, v_isBT, v_isBI, v_isBB, v_isBS, v_isST, v_isSI, v_isSB, v_isSS, v_isN, x_rev, x_join, x_fmt, x_fstr, x_zipS, y_rev, y_join1, y_join2, y_fmt, y_fstr, y_rtS, y_zipS1, y_zipS2, v_revL, x_callF, y_callF, List.getElem?_cons_zero, List.getElem?_cons_succ, List.set_cons_zero, List.set_cons_succ, decide_true, decide_false, Int.reduceEq, Int.reduceLT, Int.reduceLE, decide_eq_true_eq, Bool.not_true, Bool.not_false, if_true, if_false, Bool.false_eq_true, b__law_turned, toK, wRec_f, wRec_t, Bool.not_false, e1, ofs_inj, String.reduceEq, l0, e2, e3, if_true, a1]
        · simp -implicitDefEqProofs only [x_var, y_var, x_con, x_glob, x_bin, x_neg, x_cmp, x_chain, x_isN, x_notN, x_and, x_and1, x_or, x_or1, x_not, x_ife, x_call, x_callP, x_bi, x_isi, x_listRg, x_ix, x_sl, x_tup, x_lst, x_comp, x_compIf, x_box, x_pop, x_popAt, x_append, x_nil, x_cons, x_seq, x_rng1, x_rng2, x_zip, x_asg, x_setix, x_aug, x_ex, x_if, x_for, x_while, x_ret, x_brk, x_cont, x_bnil, x_bcons, y_rt1, y_rtB, y_bin1, y_bin2, y_cmp1, y_cmp2, y_neg, y_isN, y_notN, y_andT, y_andF, y_orT, y_orF, y_not, y_ifT, y_ifF, y_chain1, y_chain2, y_chainT, y_chainF, y_chain3, y_cons1, y_cons2, y_call, y_callP, y_bi, y_isi, y_ix1, y_ix2, y_tup0, y_tup1, y_tup2, y_tup3, y_tup4, y_lst0, y_lst1, y_lst2, y_lst3, y_lc, y_box, y_pop, y_popAt1, y_popAt2, y_append1, y_append2, y_rtL, y_seq, y_seqT, y_seqL, y_rng21, y_zip1, y_zip2, y_zipT, y_zipL, y_rtE, y_asg, y_set1, y_set2, y_set3, y_aug, y_augA, y_augS, y_ex, y_ifST, y_ifSF, y_for, y_ret, y_nx, y_rt, y_bk, y_ct, y_fnR, y_fnN, y_nm, y_tp, y_tgn, y_tgc, y_tgk, v_add, v_sub, v_eqI, v_eqS, v_eqB, v_neI, v_neS, v_neB, v_lt, v_le, v_gt, v_ge, v_lenT, v_lenL, v_lenF, v_tupL, v_tupT, v_listL, v_listT, v_intI, v_intB, v_max, v_min, v_ixT, v_ixL, v_at0, v_at1, v_at2, y_lst4, y_lst5, y_lst6, y_lst7, y_tup5, y_tup6, y_sl1, y_sl1i, y_sl2, y_sl2i, y_sl3, v_slF, v_slL, v_slT, w_0, w_1, y_part, y_sl1v, y_sl1b, y_sl1n, y_sl2v, y_sl2b, y_sl2n, v_isTT, v_isTI, v_isTB, v_isTS, v_isIT, v_isII, v_isIB, v_isIS, v_isBT, v_isBI, v_isBB, v_isBS, v_isST, v_isSI, v_isSB, v_isSS, v_isN, x_rev, x_join, x_fmt, x_fstr, x_zipS, y_rev, y_join1, y_join2, y_fmt, y_fstr, y_rtS, y_zipS1, y_zipS2, v_revL, x_callF, y_callF, List.getElem?_cons_zero, List.getElem?_cons_succ, List.set_cons_zero, List.set_cons_succ, decide_true, decide_false, Int.reduceEq, Int.reduceLT, Int.reduceLE, decide_eq_true_eq, Bool.not_true, Bool.not_false, if_true, if_false, Bool.false_eq_true, b__law_turned, toK, wRec_t, wRec_f, Bool.not_true, e1, ofs_inj, String.reduceEq, l0, e2, e3, if_false, Bool.false_eq_true, a0]
      · have hll : (psD ps).length ≤ lim := lim10 (by omega)
        have cm : ∀ (t w x5 : Option D), compL (.tp (.cons (.nm 6) (.cons (.nm 7) .nil))) [some (.ref 1), t, some (.tup (hs.map .str)), w, some (.str nm), x5, none, none] (evE (run tab G (n + 3)) G (.var 6)) (psD ps) (mem s3 []) = some ((ps.ls.map (·.1)).map .str, mem s3 []) := by
          intro t w x5
          have e0 : (ps.ls.map (·.1)).map D.str = (psD ps).map (fun d => match d with | .tup [x, _] => x | _ => .non) := by
            rw [ls_psD, List.map_map, List.map_map]
            apply List.map_congr_left
            intro p _
            rfl
          rw [e0, Pv.comp_map]
          intro d hd
          rw [ls_psD] at hd
          obtain ⟨p, _, rfl⟩ := List.mem_map.mp hd
          exact ⟨[some (.ref 1), t, some (.tup (hs.map .str)), w, some (.str nm), x5, some (.str p.1), some (toK p.2)], by simp -implicitDefEqProofs only [x_var, y_var, x_con, x_glob, x_bin, x_neg, x_cmp, x_chain, x_isN, x_notN, x_and, x_and1, x_or, x_or1, x_not, x_ife, x_call, x_callP, x_bi, x_isi, x_listRg, x_ix, x_sl, x_tup, x_lst, x_comp, x_compIf, x_box, x_pop, x_popAt, x_append, x_nil, x_cons, x_seq, x_rng1, x_rng2, x_zip, x_asg, x_setix, x_aug, x_ex, x_if, x_for, x_while, x_ret, x_brk, x_cont, x_bnil, x_bcons, y_rt1, y_rtB, y_bin1, y_bin2, y_cmp1, y_cmp2, y_neg, y_isN, y_notN, y_andT, y_andF, y_orT, y_orF, y_not, y_ifT, y_ifF, y_chain1, y_chain2, y_chainT, y_chainF, y_chain3, y_cons1, y_cons2, y_call, y_callP, y_bi, y_isi, y_ix1, y_ix2, y_tup0, y_tup1, y_tup2, y_tup3, y_tup4, y_lst0, y_lst1, y_lst2, y_lst3, y_lc, y_box, y_pop, y_popAt1, y_popAt2, y_append1, y_append2, y_rtL, y_seq, y_seqT, y_seqL, y_rng21, y_zip1, y_zip2, y_zipT, y_zipL, y_rtE, y_asg, y_set1, y_set2, y_set3, y_aug, y_augA, y_augS, y_ex, y_ifST, y_ifSF, y_for, y_ret, y_nx, y_rt, y_bk, y_ct, y_fnR, y_fnN, y_nm, y_tp, y_tgn, y_tgc, y_tgk, v_add, v_sub, v_eqI, v_eqS, v_eqB, v_neI, v_neS, v_neB, v_lt, v_le, v_gt, v_ge, v_lenT, v_lenL, v_lenF, v_tupL, v_tupT, v_listL, v_listT, v_intI, v_intB, v_max, v_min, v_ixT, v_ixL, v_at0, v_at1, v_at2, y_lst4, y_lst5, y_lst6, y_lst7, y_tup5, y_tup6, y_sl1, y_sl1i, y_sl2, y_sl2i, y_sl3, v_slF, v_slL, v_slT, w_0, w_1, y_part, y_sl1v, y_sl1b, y_sl1n, y_sl2v, y_sl2b, y_sl2n, v_isTT, v_isTI, v_isTB, v_isTS, v_isIT, v_isII, v_isIB, v_isIS, v_isBT, v_isBI, v_isBB, v_isBS, v_isST, v_isSI, v_isSB, v_isSS, v_isN, x_rev, x_join, x_fmt, x_fstr, x_zipS, y_rev, y_join1, y_join2, y_fmt, y_fstr, y_rtS, y_zipS1, y_zipS2, v_revL, x_callF, y_callF, List.getElem?_cons_zero, List.getElem?_cons_succ, List.set_cons_zero, List.set_cons_succ, decide_true, decide_false, Int.reduceEq, Int.reduceLT, Int.reduceLE, decide_eq_true_eq, Bool.not_true, Bool.not_false, if_true, if_false, Bool.false_eq_true], by simp -implicitDefEqProofs only [x_var, y_var, x_con, x_glob, x_bin, x_neg, x_cmp, x_chain, x_isN, x_notN, x_and, x_and1, x_or, x_or1, x_not, x_ife, x_call, x_callP, x_bi, x_isi, x_listRg, x_ix, x_sl, x_tup, x_lst, x_comp, x_compIf, x_box, x_pop, x_popAt, x_append, x_nil, x_cons, x_seq, x_rng1, x_rng2, x_zip, x_asg, x_setix, x_aug, x_ex, x_if, x_for, x_while, x_ret, x_brk, x_cont, x_bnil, x_bcons, y_rt1, y_rtB, y_bin1, y_bin2, y_cmp1, y_cmp2, y_neg, y_isN, y_notN, y_andT, y_andF, y_orT, y_orF, y_not, y_ifT, y_ifF, y_chain1, y_chain2, y_chainT, y_chainF, y_chain3, y_cons1, y_cons2, y_call, y_callP, y_bi, y_isi, y_ix1, y_ix2, y_tup0, y_tup1, y_tup2, y_tup3, y_tup4, y_lst0, y_lst1, y_lst2, y_lst3, y_lc, y_box, y_pop, y_popAt1, y_popAt2, y_append1, y_append2, y_rtL, y_seq, y_seqT, y_seqL, y_rng21, y_zip1, y_zip2, y_zipT, y_zipL, y_rtE, y_asg, y_set1, y_set2, y_set3, y_aug, y_augA, y_augS, y_ex, y_ifST, y_ifSF, y_for, y_ret, y_nx, y_rt, y_bk, y_ct, y_fnR, y_fnN, y_nm, y_tp, y_tgn, y_tgc, y_tgk, v_add, v_sub, v_eqI, v_eqS, v_eqB, v_neI, v_neS, v_neB, v_lt, v_le, v_gt, v_ge, v_lenT, v_lenL, v_lenF, v_tupL, v_tupT, v_listL, v_listT, v_intI, v_intB, v_max, v_min, v_ixT, v_ixL, v_at0, v_at1, v_at2, y_lst4, y_lst5, y_lst6, y_lst7, y_tup5, y_tup6, y_sl1, y_sl1i, y_sl2, y_sl2i, y_sl3, v_slF, v_slL, v_slT, w_0, w_1, y_part, y_sl1v, y_sl1b, y_sl1n, y_sl2v, y_sl2b, y_sl2n, v_isTT, v_isTI, v_isTB, v_isTS, v_isIT, v_isII, v_isIB, v_isIS, v_isBT, v_isBI, v_isBB, v_isBS, v_isST, v_isSI, v_isSB, v_isSS, v_isN, x_rev, x_join, x_fmt, x_fstr, x_zipS, y_rev, y_join1, y_join2, y_fmt, y_fstr, y_rtS, y_zipS1, y_zipS2, v_revL, x_callF, y_callF, List.getElem?_cons_zero, List.getElem?_cons_succ, List.set_cons_zero, List.set_cons_succ, decide_true, decide_false, Int.reduceEq, Int.reduceLT, Int.reduceLE, decide_eq_true_eq, Bool.not_true, Bool.not_false, if_true, if_false, Bool.false_eq_true]⟩
        obtain ⟨bb, fb⟩ := in_strsL (m := mem s3 []) (ss := ps.ls.map (·.1)) (x := nm)
        cases bb with
        | true =>
          refine ⟨.rcd (!v) ps, s3, ?_, sw⟩
          cases v
          · simp -implicitDefEqProofs only [x_var, y_var, x_con, x_glob, x_bin, x_neg, x_cmp, x_chain, x_isN, x_notN, x_and, x_and1, x_or, x_or1, x_not, x_ife, x_call, x_callP, x_bi, x_isi, x_listRg, x_ix, x_sl, x_tup, x_lst, x_comp, x_compIf, x_box, x_pop, x_popAt, x_append, x_nil, x_cons, x_seq, x_rng1, x_rng2, x_zip, x_asg, x_setix, x_aug, x_ex, x_if, x_for, x_while, x_ret, x_brk, x_cont, x_bnil, x_bcons, y_rt1, y_rtB, y_bin1, y_bin2, y_cmp1, y_cmp2, y_neg, y_isN, y_notN, y_andT, y_andF, y_orT, y_orF, y_not, y_ifT, y_ifF, y_chain1, y_chain2, y_chainT, y_chainF, y_chain3, y_cons1, y_cons2, y_call, y_callP, y_bi, y_isi, y_ix1, y_ix2, y_tup0, y_tup1, y_tup2, y_tup3, y_tup4, y_lst0, y_lst1, y_lst2, y_lst3, y_lc, y_box, y_pop, y_popAt1, y_popAt2, y_append1, y_append2, y_rtL, y_seq, y_seqT, y_seqL, y_rng21, y_zip1, y_zip2, y_zipT, y_zipL, y_rtE, y_asg, y_set1, y_set2, y_set3, y_aug, y_augA, y_augS, y_ex, y_ifST, y_ifSF, y_for, y_ret, y_nx, y_rt, y_bk, y_ct, y_fnR, y_fnN, y_nm, y_tp, y_tgn, y_tgc, y_tgk, v_add, v_sub, v_eqI, v_eqS, v_eqB, v_neI, v_neS, v_neB, v_lt, v_le, v_gt, v_ge, v_lenT, v_lenL, v_lenF, v_tupL, v_tupT, v_listL, v_listT, v_intI, v_intB, v_max, v_min, v_ixT, v_ixL, v_at0, v_at1, v_at2, y_lst4, y_lst5, y_lst6, y_lst7, y_tup5, y_tup6, y_sl1, y_sl1i, y_sl2, y_sl2i, y_sl3, v_slF, v_slL, v_slT, w_0, w_1, y_part, y_sl1v, y_sl1b, y_sl1n, y_sl2v, y_sl2b, y_sl2n, v_isTT, v_isTI, v_isTB, v_isTS, v_isIT, v_isII, v_isIB, v_isIS, v_isBT, v_isBI, v_isBB, v_isBS, v_isST, v_isSI, v_isSB, v_isSS, v_isN, x_rev, x_join, x_fmt, x_fstr, x_zipS, y_rev, y_join1, y_join2, y_fmt, y_fstr, y_rtS, y_zipS1, y_zipS2, v_revL, x_callF, y_callF, List.getElem?_cons_zero, List.getElem?_cons_succ, List.set_cons_zero, List.set_cons_succ, decide_true, decide_false, Int.reduceEq, Int.reduceLT, Int.reduceLE, decide_eq_true_eq, Bool.not_true, Bool.not_false, if_true, if_false, Bool.false_eq_true, b__law_turned, toK, wRec_f, wRec_t, Bool.not_false, e1, ofs_inj, String.reduceEq, l0, e2, e3, hb, y_comp hll, cm, fb, if_true, a1]
          · simp -implicitDefEqProofs only [x_var, y_var, x_con, x_glob, x_bin, x_neg, x_cmp, x_chain, x_isN, x_notN, x_and, x_and1, x_or, x_or1, x_not, x_ife, x_call, x_callP, x_bi, x_isi, x_listRg, x_ix, x_sl, x_tup, x_lst, x_comp, x_compIf, x_box, x_pop, x_popAt, x_append, x_nil, x_cons, x_seq, x_rng1, x_rng2, x_zip, x_asg, x_setix, x_aug, x_ex, x_if, x_for, x_while, x_ret, x_brk, x_cont, x_bnil, x_bcons, y_rt1, y_rtB, y_bin1, y_bin2, y_cmp1, y_cmp2, y_neg, y_isN, y_notN, y_andT, y_andF, y_orT, y_orF, y_not, y_ifT, y_ifF, y_chain1, y_chain2, y_chainT, y_chainF, y_chain3, y_cons1, y_cons2, y_call, y_callP, y_bi, y_isi, y_ix1, y_ix2, y_tup0, y_tup1, y_tup2, y_tup3, y_tup4, y_lst0, y_lst1, y_lst2, y_lst3, y_lc, y_box, y_pop, y_popAt1, y_popAt2, y_append1, y_append2, y_rtL, y_seq, y_seqT, y_seqL, y_rng21, y_zip1, y_zip2, y_zipT, y_zipL, y_rtE, y_asg, y_set1, y_set2, y_set3, y_aug, y_augA, y_augS, y_ex, y_ifST, y_ifSF, y_for, y_ret, y_nx, y_rt, y_bk, y_ct, y_fnR, y_fnN, y_nm, y_tp, y_tgn, y_tgc, y_tgk, v_add, v_sub, v_eqI, v_eqS, v_eqB, v_neI, v_neS, v_neB, v_lt, v_le, v_gt, v_ge, v_lenT, v_lenL, v_lenF, v_tupL, v_tupT, v_listL, v_listT, v_intI, v_intB, v_max, v_min, v_ixT, v_ixL, v_at0, v_at1, v_at2, y_lst4, y_lst5, y_lst6, y_lst7, y_tup5, y_tup6, y_sl1, y_sl1i, y_sl2, y_sl2i, y_sl3, v_slF, v_slL, v_slT, w_0, w_1, y_part, y_sl1v, y_sl1b, y_sl1n, y_sl2v, y_sl2b, y_sl2n, v_isTT, v_isTI, v_isTB, v_isTS, v_isIT, v_isII, v_isIB, v_isIS, v_isBT, v_isBI, v_isBB, v_isBS, v_isST, v_isSI, v_isSB, v_isSS, v_isN, x_rev, x_join, x_fmt, x_fstr, x_zipS, y_rev, y_join1, y_join2, y_fmt, y_fstr, y_rtS, y_zipS1, y_zipS2, v_revL, x_callF, y_callF, List.getElem?_cons_zero, List.getElem?_cons_succ, List.set_cons_zero, List.set_cons_succ, decide_true, decide_false, Int.reduceEq, Int.reduceLT, Int.reduceLE, decide_eq_true_eq, Bool.not_true, Bool.not_false, if_true, if_false, Bool.false_eq_true, b__law_turned, toK, wRec_t, wRec_f, Bool.not_true, e1, ofs_inj, String.reduceEq, l0, e2, e3, hb, y_comp hll, cm, fb, if_false, Bool.false_eq_true, a0]
        | false =>
          have ha' : a < (psD ps).length := by omega
          have ex : atD (psD ps) (a : Int) = some (.tup [.str ps.ls[a].1, toK ps.ls[a].2]) := by rw [ls_psD]; exact atD_nat (by simp [ha, pk])
          have t1 : ((psD ps).take a).length ≤ 1000 := by rw [List.length_take]; omega
          have t2 : ((psD ps).take a ++ [D.tup [.str nm, toK ps.ls[a].2]] ++ (psD ps).drop (a + 1)).length = (psD ps).length := by simp; omega
          have c1 := v_catT (m := mem s3 []) (xs := (psD ps).take a) (ys := [.tup [.str nm, toK ps.ls[a].2]]) (lim10 (by simp only [List.length_singleton]; omega))
          have c2 := v_catT (m := mem s3 []) (xs := (psD ps).take a ++ [.tup [.str nm, toK ps.ls[a].2]]) (ys := (psD ps).drop (a + 1)) (lim10 (by rw [← List.length_append, t2]; omega))
          have hwa := ls_wf hw ps.ls[a] (List.getElem_mem ha)
          refine ⟨.rcd v (Ps.of (ps.ls.set a (nm, ps.ls[a].2))), s3, ?_, ?_, ?_, by omega, o3⟩
          · have es : psD (Ps.of (ps.ls.set a (nm, ps.ls[a].2))) = (psD ps).set a (.tup [.str nm, toK ps.ls[a].2]) := by rw [of_psD, List.map_set, ls_psD]
            cases v
            · simp -implicitDefEqProofs only [x_var, y_var, x_con, x_glob, x_bin, x_neg, x_cmp, x_chain, x_isN, x_notN, x_and, x_and1, x_or, x_or1, x_not, x_ife, x_call, x_callP, x_bi, x_isi, x_listRg, x_ix, x_sl, x_tup, x_lst, x_comp, x_compIf, x_box, x_pop, x_popAt, x_append, x_nil, x_cons, x_seq, x_rng1, x_rng2, x_zip, x_asg, x_setix, x_aug, x_ex, x_if, x_for, x_while, x_ret, x_brk, x_cont, x_bnil, x_bcons, y_rt1, y_rtB, y_bin1, y_bin2, y_cmp1, y_cmp2, y_neg, y_isN, y_notN, y_andT, y_andF, y_orT, y_orF, y_not, y_ifT, y_ifF, y_chain1, y_chain2, y_chainT, y_chainF, y_chain3, y_cons1, y_cons2, y_call, y_callP, y_bi, y_isi, y_ix1, y_ix2, y_tup0, y_tup1, y_tup2, y_tup3, y_tup4, y_lst0, y_lst1, y_lst2, y_lst3, y_lc, y_box, y_pop, y_popAt1, y_popAt2, y_append1, y_append2, y_rtL, y_seq, y_seqT, y_seqL, y_rng21, y_zip1, y_zip2, y_zipT, y_zipL, y_rtE, y_asg, y_set1, y_set2, y_set3, y_aug, y_augA, y_augS, y_ex, y_ifST, y_ifSF, y_for, y_ret, y_nx, y_rt, y_bk, y_ct, y_fnR, y_fnN, y_nm, y_tp, y_tgn, y_tgc, y_tgk, v_add, v_sub, v_eqI, v_eqS, v_eqB, v_neI, v_neS, v_neB, v_lt, v_le, v_gt, v_ge, v_lenT, v_lenL, v_lenF, v_tupL, v_tupT, v_listL, v_listT, v_intI, v_intB, v_max, v_min, v_ixT, v_ixL, v_at0, v_at1, v_at2, y_lst4, y_lst5, y_lst6, y_lst7, y_tup5, y_tup6, y_sl1, y_sl1i, y_sl2, y_sl2i, y_sl3, v_slF, v_slL, v_slT, w_0, w_1, y_part, y_sl1v, y_sl1b, y_sl1n, y_sl2v, y_sl2b, y_sl2n, v_isTT, v_isTI, v_isTB, v_isTS, v_isIT, v_isII, v_isIB, v_isIS, v_isBT, v_isBI, v_isBB, v_isBS, v_isST, v_isSI, v_isSB, v_isSS, v_isN, x_rev, x_join, x_fmt, x_fstr, x_zipS, y_rev, y_join1, y_join2, y_fmt, y_fstr, y_rtS, y_zipS1, y_zipS2, v_revL, x_callF, y_callF, List.getElem?_cons_zero, List.getElem?_cons_succ, List.set_cons_zero, List.set_cons_succ, decide_true, decide_false, Int.reduceEq, Int.reduceLT, Int.reduceLE, decide_eq_true_eq, Bool.not_true, Bool.not_false, if_true, if_false, Bool.false_eq_true, b__law_turned, toK, wRec_f, es, e1, ofs_inj, String.reduceEq, l0, e2, e3, hb, y_comp hll, cm, fb, cut_take ha', ex, cut_drop ha', c1, c2, set_cut ha']
            · simp -implicitDefEqProofs only [x_var, y_var, x_con, x_glob, x_bin, x_neg, x_cmp, x_chain, x_isN, x_notN, x_and, x_and1, x_or, x_or1, x_not, x_ife, x_call, x_callP, x_bi, x_isi, x_listRg, x_ix, x_sl, x_tup, x_lst, x_comp, x_compIf, x_box, x_pop, x_popAt, x_append, x_nil, x_cons, x_seq, x_rng1, x_rng2, x_zip, x_asg, x_setix, x_aug, x_ex, x_if, x_for, x_while, x_ret, x_brk, x_cont, x_bnil, x_bcons, y_rt1, y_rtB, y_bin1, y_bin2, y_cmp1, y_cmp2, y_neg, y_isN, y_notN, y_andT, y_andF, y_orT, y_orF, y_not, y_ifT, y_ifF, y_chain1, y_chain2, y_chainT, y_chainF, y_chain3, y_cons1, y_cons2, y_call, y_callP, y_bi, y_isi, y_ix1, y_ix2, y_tup0, y_tup1, y_tup2, y_tup3, y_tup4, y_lst0, y_lst1, y_lst2, y_lst3, y_lc, y_box, y_pop, y_popAt1, y_popAt2, y_append1, y_append2, y_rtL, y_seq, y_seqT, y_seqL, y_rng21, y_zip1, y_zip2, y_zipT, y_zipL, y_rtE, y_asg, y_set1, y_set2, y_set3, y_aug, y_augA, y_augS, y_ex, y_ifST, y_ifSF, y_for, y_ret, y_nx, y_rt, y_bk, y_ct, y_fnR, y_fnN, y_nm, y_tp, y_tgn, y_tgc, y_tgk, v_add, v_sub, v_eqI, v_eqS, v_eqB, v_neI, v_neS, v_neB, v_lt, v_le, v_gt, v_ge, v_lenT, v_lenL, v_lenF, v_tupL, v_tupT, v_listL, v_listT, v_intI, v_intB, v_max, v_min, v_ixT, v_ixL, v_at0, v_at1, v_at2, y_lst4, y_lst5, y_lst6, y_lst7, y_tup5, y_tup6, y_sl1, y_sl1i, y_sl2, y_sl2i, y_sl3, v_slF, v_slL, v_slT, w_0, w_1, y_part, y_sl1v, y_sl1b, y_sl1n, y_sl2v, y_sl2b, y_sl2n, v_isTT, v_isTI, v_isTB, v_isTS, v_isIT, v_isII, v_isIB, v_isIS, v_isBT, v_isBI, v_isBB, v_isBS, v_isST, v_isSI, v_isSB, v_isSS, v_isN, x_rev, x_join, x_fmt, x_fstr, x_zipS, y_rev, y_join1, y_join2, y_fmt, y_fstr, y_rtS, y_zipS1, y_zipS2, v_revL, x_callF, y_callF, List.getElem?_cons_zero, List.getElem?_cons_succ, List.set_cons_zero, List.set_cons_succ, decide_true, decide_false, Int.reduceEq, Int.reduceLT, Int.reduceLE, decide_eq_true_eq, Bool.not_true, Bool.not_false, if_true, if_false, Bool.false_eq_true, b__law_turned, toK, wRec_t, es, e1, ofs_inj, String.reduceEq, l0, e2, e3, hb, y_comp hll, cm, fb, cut_take ha', ex, cut_drop ha', c1, c2, set_cut ha']
          · simp only [wf]
            refine of_wfp fun p hp => ?_
            rcases List.mem_or_eq_of_mem_set hp with hp | rfl
            · exact ls_wf hw p hp
            · exact ⟨hnm, hwa.2⟩
          · have := lz_set (q := (nm, ps.ls[a].2)) ha
            show 1 + pz (Ps.of _) ≤ 1 + pz ps + 1
            rw [pz_of, pz_ls]
            have this : lz (ps.ls.set a (nm, ps.ls[a].2)) + kz ps.ls[a].2 = lz ps.ls + kz ps.ls[a].2 := this
            omega
end Lw

namespace Lw
open PySem Pv
abbrev GG : List D := glo.map (·.2)
theorem step_ex {F : Fn} {G : List D} {st : S} {rest : Ss} {env : Pv.Env} {m : M} {r : D} (P : Pv.Env → M → Prop) (h : ∃ e m1, evS F G st env m = some (.nx, e, m1) ∧ P e m1) (k : ∀ e m1, P e m1 → ∃ m', kFn (evB F G rest e m1) = some (r, m')) : ∃ m', kFn (evB F G (.cons st rest) env m) = some (r, m') := by
  obtain ⟨e, m1, h1, h2⟩ := h
  obtain ⟨m', h3⟩ := k e m1 h2
  refine ⟨m', ?_⟩
  rw [x_bcons, h1]
  exact h3
theorem main : ∀ ns : List Int, ns.length ≤ 63 → ∃ m', run tab (glo.map (·.2)) 151 14 [.frz (ns.map .int)] [] = some (.bl true, m') := by
  intro ns hns
  show ∃ m', run tab GG 151 14 [.frz (ns.map .int)] [] = some (.bl true, m')
  obtain ⟨s0, e0, o0, k0⟩ := draws_ok (run tab GG 149) GG ns hns
  have e0' : run tab GG 150 2 [.frz (ns.map .int)] [] = some (.ref 1, mem s0 []) := by rw [run__law_deck]; exact e0
  obtain ⟨ch, s1, e1, p1, q1, k1, o1⟩ := pick_run (G := GG) (n := 149) s0 o0 (by omega) 3 (by decide) (by decide) []
  obtain ⟨wh, s2, e2, p2, q2, k2, o2⟩ := pick_run (G := GG) (n := 149) s1 o1 (by omega) 1000 (by decide) (by decide) []
  obtain ⟨a3, s3, e3, p3, q3, k3, o3⟩ := pick_run (G := GG) (n := 149) s2 o2 (by omega) 3 (by decide) (by decide) []
  obtain ⟨rm, erm, hrm⟩ := at_any (P := fun x => ∃ i : Nat, x = .int (i : Int) ∧ i ≤ 39) (l := [.int 6, .int 12, .int 39]) (by
    intro x hx
    simp only [List.mem_cons, List.not_mem_nil, or_false] at hx
    rcases hx with rfl | rfl | rfl
    · exact ⟨6, rfl, by decide⟩
    · exact ⟨12, rfl, by decide⟩
    · exact ⟨39, rfl, by decide⟩) p3 q3
  obtain ⟨room, rfl, hroom⟩ := hrm
  obtain ⟨n4, s4, e4, l4, h4, k4, o4⟩ := names_ok (G := GG) (n := 147) 3 (by decide) s3 o3 (by omega)
  have e4 : kFresh (mem s3 []) (run tab GG 150 6 [.ref 1, .int 3] (mem s3 [])) = some (.lst (n4.map .str), mem s4 []) := e4
  have hT8 : TK 8 < 2 ^ 36 := by decide
  obtain ⟨vs, m', hcm, hd, rfl, hdl, hdn, s5, rfl, k5, o5⟩ := comp_ok (t := .nm 13) (te := evE (run tab GG 150) GG (.tup (.cons (.var 13) (.cons (.call 3 (.cons (.var 1) (.cons (.con (.int 4)) .nil))) .nil))))
    (fun i acc m => ∃ hd : List (Str × Nat), acc = hd.map hdD ∧ hd.length = i ∧ (∀ p ∈ hd, nmOk p.1 = true ∧ p.2 ≤ 3) ∧ ∃ s5 : Dk, m = mem s5 [] ∧ s5.k = s4.k + i ∧ s5.Ok)
    (n4.map .str) [some (.frz (ns.map .int)), some (.ref 1), some (.int ch), some (.int wh), some (.int (room : Int)), some (.lst (n4.map .str)), none, none, none, none, none, none, none, none, none, none] (mem s4 []) ⟨[], rfl, rfl, by simp, s4, rfl, rfl, o4⟩ (by
      rintro i hi acc m ⟨hd, rfl, hdl, hdn, s5, rfl, k5, o5⟩
      rw [List.length_map] at hi
      obtain ⟨b, s6, e6, p6, q6, k6, o6⟩ := pick_run (G := GG) (n := 149) s5 o5 (by omega) 4 (by decide) (by decide) []
      obtain ⟨b, rfl⟩ := Int.eq_ofNat_of_zero_le p6
      refine ⟨_, .tup [.str n4[i], .int (b : Int)], mem s6 [], y_nm, ?_, hd ++ [(n4[i], b)], by simp [hdD], by simp [hdl], ?_, s6, rfl, by omega, o6⟩
      · rw [List.getElem_map]
        simp -implicitDefEqProofs only [x_var, y_var, x_con, x_glob, x_bin, x_neg, x_cmp, x_chain, x_isN, x_notN, x_and, x_and1, x_or, x_or1, x_not, x_ife, x_call, x_callP, x_bi, x_isi, x_listRg, x_ix, x_sl, x_tup, x_lst, x_comp, x_compIf, x_box, x_pop, x_popAt, x_append, x_nil, x_cons, x_seq, x_rng1, x_rng2, x_zip, x_asg, x_setix, x_aug, x_ex, x_if, x_for, x_while, x_ret, x_brk, x_cont, x_bnil, x_bcons, y_rt1, y_rtB, y_bin1, y_bin2, y_cmp1, y_cmp2, y_neg, y_isN, y_notN, y_andT, y_andF, y_orT, y_orF, y_not, y_ifT, y_ifF, y_chain1, y_chain2, y_chainT, y_chainF, y_chain3, y_cons1, y_cons2, y_call, y_callP, y_bi, y_isi, y_ix1, y_ix2, y_tup0, y_tup1, y_tup2, y_tup3, y_tup4, y_lst0, y_lst1, y_lst2, y_lst3, y_lc, y_box, y_pop, y_popAt1, y_popAt2, y_append1, y_append2, y_rtL, y_seq, y_seqT, y_seqL, y_rng21, y_zip1, y_zip2, y_zipT, y_zipL, y_rtE, y_asg, y_set1, y_set2, y_set3, y_aug, y_augA, y_augS, y_ex, y_ifST, y_ifSF, y_for, y_ret, y_nx, y_rt, y_bk, y_ct, y_fnR, y_fnN, y_nm, y_tp, y_tgn, y_tgc, y_tgk, v_add, v_sub, v_eqI, v_eqS, v_eqB, v_neI, v_neS, v_neB, v_lt, v_le, v_gt, v_ge, v_lenT, v_lenL, v_lenF, v_tupL, v_tupT, v_listL, v_listT, v_intI, v_intB, v_max, v_min, v_ixT, v_ixL, v_at0, v_at1, v_at2, y_lst4, y_lst5, y_lst6, y_lst7, y_tup5, y_tup6, y_sl1, y_sl1i, y_sl2, y_sl2i, y_sl3, v_slF, v_slL, v_slT, w_0, w_1, y_part, y_sl1v, y_sl1b, y_sl1n, y_sl2v, y_sl2b, y_sl2n, v_isTT, v_isTI, v_isTB, v_isTS, v_isIT, v_isII, v_isIB, v_isIS, v_isBT, v_isBI, v_isBB, v_isBS, v_isST, v_isSI, v_isSB, v_isSS, v_isN, x_rev, x_join, x_fmt, x_fstr, x_zipS, y_rev, y_join1, y_join2, y_fmt, y_fstr, y_rtS, y_zipS1, y_zipS2, v_revL, x_callF, y_callF, List.getElem?_cons_zero, List.getElem?_cons_succ, List.set_cons_zero, List.set_cons_succ, decide_true, decide_false, Int.reduceEq, Int.reduceLT, Int.reduceLE, decide_eq_true_eq, Bool.not_true, Bool.not_false, if_true, if_false, Bool.false_eq_true, e6]
      · intro p hp
        rcases List.mem_append.mp hp with hp | hp
        · exact hdn p hp
        · rw [List.mem_singleton.mp hp]
          exact ⟨h4 _ (List.getElem_mem hi), by show b ≤ 3; omega⟩)
  rw [List.length_map, l4] at hdl k5
  have hll : (n4.map D.str).length ≤ lim := lim10 (by rw [List.length_map]; omega)
  obtain ⟨c, s6, e6, p6, q6, k6, o6⟩ := pick_run (G := GG) (n := 149) s5 o5 (by omega) 4 (by decide) (by decide) []
  obtain ⟨c, rfl⟩ := Int.eq_ofNat_of_zero_le p6
  obtain ⟨hs, s7, e7, l7, h7, k7, o7⟩ := names_ok (G := GG) (n := 147) c (by omega) s6 o6 (by omega)
  have e7 : kFresh (mem s6 []) (run tab GG 150 6 [.ref 1, .int c] (mem s6 [])) = some (.lst (hs.map .str), mem s7 []) := e7
  obtain ⟨d8, s8, e8, p8, q8, k8, o8⟩ := pick_run (G := GG) (n := 149) s7 o7 (by omega) 8 (by decide) (by decide) []
  have hd0 : hd ≠ [] := by intro e; rw [e] at hdl; simp at hdl
  obtain ⟨x, s9, e9, wx, zx, k9, o9⟩ := kind_ok (G := GG) (n0 := 138) h7 (by omega) hd0 (by omega) hdn 8 (1 + d8) room s8 (by omega) (by omega) o8 (by omega)
  have e9 : run tab GG 150 8 [.ref 1, .lst (hd.map hdD), .tup (hs.map .str), .int (1 + d8), .int room] (mem s8 []) = some (toK x, mem s9 []) := e9
  obtain ⟨dA, sA, eA, pA, qA, kA, oA⟩ := pick_run (G := GG) (n := 149) s9 o9 (by omega) 8 (by decide) (by decide) []
  obtain ⟨y, sB, eB, wy, zy, kB, oB⟩ := kind_ok (G := GG) (n0 := 138) h7 (by omega) hd0 (by omega) hdn 8 (1 + dA) room sA (by omega) (by omega) oA (by omega)
  have eB : run tab GG 150 8 [.ref 1, .lst (hd.map hdD), .tup (hs.map .str), .int (1 + dA), .int room] (mem sA []) = some (toK y, mem sB []) := eB
  rw [run_law, r_law]
  unfold b_law
  refine step_ex (fun e m => e = [some (.frz (ns.map .int)), some (.ref 1), none, none, none, none, none, none, none, none, none, none, none, none, none, none] ∧ m = mem s0 []) ⟨_, _, by simp -implicitDefEqProofs only [x_var, y_var, x_con, x_glob, x_bin, x_neg, x_cmp, x_chain, x_isN, x_notN, x_and, x_and1, x_or, x_or1, x_not, x_ife, x_call, x_callP, x_bi, x_isi, x_listRg, x_ix, x_sl, x_tup, x_lst, x_comp, x_compIf, x_box, x_pop, x_popAt, x_append, x_nil, x_cons, x_seq, x_rng1, x_rng2, x_zip, x_asg, x_setix, x_aug, x_ex, x_if, x_for, x_while, x_ret, x_brk, x_cont, x_bnil, x_bcons, y_rt1, y_rtB, y_bin1, y_bin2, y_cmp1, y_cmp2, y_neg, y_isN, y_notN, y_andT, y_andF, y_orT, y_orF, y_not, y_ifT, y_ifF, y_chain1, y_chain2, y_chainT, y_chainF, y_chain3, y_cons1, y_cons2, y_call, y_callP, y_bi, y_isi, y_ix1, y_ix2, y_tup0, y_tup1, y_tup2, y_tup3, y_tup4, y_lst0, y_lst1, y_lst2, y_lst3, y_lc, y_box, y_pop, y_popAt1, y_popAt2, y_append1, y_append2, y_rtL, y_seq, y_seqT, y_seqL, y_rng21, y_zip1, y_zip2, y_zipT, y_zipL, y_rtE, y_asg, y_set1, y_set2, y_set3, y_aug, y_augA, y_augS, y_ex, y_ifST, y_ifSF, y_for, y_ret, y_nx, y_rt, y_bk, y_ct, y_fnR, y_fnN, y_nm, y_tp, y_tgn, y_tgc, y_tgk, v_add, v_sub, v_eqI, v_eqS, v_eqB, v_neI, v_neS, v_neB, v_lt, v_le, v_gt, v_ge, v_lenT, v_lenL, v_lenF, v_tupL, v_tupT, v_listL, v_listT, v_intI, v_intB, v_max, v_min, v_ixT, v_ixL, v_at0, v_at1, v_at2, y_lst4, y_lst5, y_lst6, y_lst7, y_tup5, y_tup6, y_sl1, y_sl1i, y_sl2, y_sl2i, y_sl3, v_slF, v_slL, v_slT, w_0, w_1, y_part, y_sl1v, y_sl1b, y_sl1n, y_sl2v, y_sl2b, y_sl2n, v_isTT, v_isTI, v_isTB, v_isTS, v_isIT, v_isII, v_isIB, v_isIS, v_isBT, v_isBI, v_isBB, v_isBS, v_isST, v_isSI, v_isSB, v_isSS, v_isN, x_rev, x_join, x_fmt, x_fstr, x_zipS, y_rev, y_join1, y_join2, y_fmt, y_fstr, y_rtS, y_zipS1, y_zipS2, v_revL, x_callF, y_callF, List.getElem?_cons_zero, List.getElem?_cons_succ, List.set_cons_zero, List.set_cons_succ, decide_true, decide_false, Int.reduceEq, Int.reduceLT, Int.reduceLE, decide_eq_true_eq, Bool.not_true, Bool.not_false, if_true, if_false, Bool.false_eq_true, e0'], rfl, rfl⟩ ?_
  rintro _ _ ⟨rfl, rfl⟩
  refine step_ex (fun e m => e = [some (.frz (ns.map .int)), some (.ref 1), some (.int ch), none, none, none, none, none, none, none, none, none, none, none, none, none] ∧ m = mem s1 []) ⟨_, _, by simp -implicitDefEqProofs only [x_var, y_var, x_con, x_glob, x_bin, x_neg, x_cmp, x_chain, x_isN, x_notN, x_and, x_and1, x_or, x_or1, x_not, x_ife, x_call, x_callP, x_bi, x_isi, x_listRg, x_ix, x_sl, x_tup, x_lst, x_comp, x_compIf, x_box, x_pop, x_popAt, x_append, x_nil, x_cons, x_seq, x_rng1, x_rng2, x_zip, x_asg, x_setix, x_aug, x_ex, x_if, x_for, x_while, x_ret, x_brk, x_cont, x_bnil, x_bcons, y_rt1, y_rtB, y_bin1, y_bin2, y_cmp1, y_cmp2, y_neg, y_isN, y_notN, y_andT, y_andF, y_orT, y_orF, y_not, y_ifT, y_ifF, y_chain1, y_chain2, y_chainT, y_chainF, y_chain3, y_cons1, y_cons2, y_call, y_callP, y_bi, y_isi, y_ix1, y_ix2, y_tup0, y_tup1, y_tup2, y_tup3, y_tup4, y_lst0, y_lst1, y_lst2, y_lst3, y_lc, y_box, y_pop, y_popAt1, y_popAt2, y_append1, y_append2, y_rtL, y_seq, y_seqT, y_seqL, y_rng21, y_zip1, y_zip2, y_zipT, y_zipL, y_rtE, y_asg, y_set1, y_set2, y_set3, y_aug, y_augA, y_augS, y_ex, y_ifST, y_ifSF, y_for, y_ret, y_nx, y_rt, y_bk, y_ct, y_fnR, y_fnN, y_nm, y_tp, y_tgn, y_tgc, y_tgk, v_add, v_sub, v_eqI, v_eqS, v_eqB, v_neI, v_neS, v_neB, v_lt, v_le, v_gt, v_ge, v_lenT, v_lenL, v_lenF, v_tupL, v_tupT, v_listL, v_listT, v_intI, v_intB, v_max, v_min, v_ixT, v_ixL, v_at0, v_at1, v_at2, y_lst4, y_lst5, y_lst6, y_lst7, y_tup5, y_tup6, y_sl1, y_sl1i, y_sl2, y_sl2i, y_sl3, v_slF, v_slL, v_slT, w_0, w_1, y_part, y_sl1v, y_sl1b, y_sl1n, y_sl2v, y_sl2b, y_sl2n, v_isTT, v_isTI, v_isTB, v_isTS, v_isIT, v_isII, v_isIB, v_isIS, v_isBT, v_isBI, v_isBB, v_isBS, v_isST, v_isSI, v_isSB, v_isSS, v_isN, x_rev, x_join, x_fmt, x_fstr, x_zipS, y_rev, y_join1, y_join2, y_fmt, y_fstr, y_rtS, y_zipS1, y_zipS2, v_revL, x_callF, y_callF, List.getElem?_cons_zero, List.getElem?_cons_succ, List.set_cons_zero, List.set_cons_succ, decide_true, decide_false, Int.reduceEq, Int.reduceLT, Int.reduceLE, decide_eq_true_eq, Bool.not_true, Bool.not_false, if_true, if_false, Bool.false_eq_true, e1], rfl, rfl⟩ ?_
  rintro _ _ ⟨rfl, rfl⟩
  refine step_ex (fun e m => e = [some (.frz (ns.map .int)), some (.ref 1), some (.int ch), some (.int wh), none, none, none, none, none, none, none, none, none, none, none, none] ∧ m = mem s2 []) ⟨_, _, by simp -implicitDefEqProofs only [x_var, y_var, x_con, x_glob, x_bin, x_neg, x_cmp, x_chain, x_isN, x_notN, x_and, x_and1, x_or, x_or1, x_not, x_ife, x_call, x_callP, x_bi, x_isi, x_listRg, x_ix, x_sl, x_tup, x_lst, x_comp, x_compIf, x_box, x_pop, x_popAt, x_append, x_nil, x_cons, x_seq, x_rng1, x_rng2, x_zip, x_asg, x_setix, x_aug, x_ex, x_if, x_for, x_while, x_ret, x_brk, x_cont, x_bnil, x_bcons, y_rt1, y_rtB, y_bin1, y_bin2, y_cmp1, y_cmp2, y_neg, y_isN, y_notN, y_andT, y_andF, y_orT, y_orF, y_not, y_ifT, y_ifF, y_chain1, y_chain2, y_chainT, y_chainF, y_chain3, y_cons1, y_cons2, y_call, y_callP, y_bi, y_isi, y_ix1, y_ix2, y_tup0, y_tup1, y_tup2, y_tup3, y_tup4, y_lst0, y_lst1, y_lst2, y_lst3, y_lc, y_box, y_pop, y_popAt1, y_popAt2, y_append1, y_append2, y_rtL, y_seq, y_seqT, y_seqL, y_rng21, y_zip1, y_zip2, y_zipT, y_zipL, y_rtE, y_asg, y_set1, y_set2, y_set3, y_aug, y_augA, y_augS, y_ex, y_ifST, y_ifSF, y_for, y_ret, y_nx, y_rt, y_bk, y_ct, y_fnR, y_fnN, y_nm, y_tp, y_tgn, y_tgc, y_tgk, v_add, v_sub, v_eqI, v_eqS, v_eqB, v_neI, v_neS, v_neB, v_lt, v_le, v_gt, v_ge, v_lenT, v_lenL, v_lenF, v_tupL, v_tupT, v_listL, v_listT, v_intI, v_intB, v_max, v_min, v_ixT, v_ixL, v_at0, v_at1, v_at2, y_lst4, y_lst5, y_lst6, y_lst7, y_tup5, y_tup6, y_sl1, y_sl1i, y_sl2, y_sl2i, y_sl3, v_slF, v_slL, v_slT, w_0, w_1, y_part, y_sl1v, y_sl1b, y_sl1n, y_sl2v, y_sl2b, y_sl2n, v_isTT, v_isTI, v_isTB, v_isTS, v_isIT, v_isII, v_isIB, v_isIS, v_isBT, v_isBI, v_isBB, v_isBS, v_isST, v_isSI, v_isSB, v_isSS, v_isN, x_rev, x_join, x_fmt, x_fstr, x_zipS, y_rev, y_join1, y_join2, y_fmt, y_fstr, y_rtS, y_zipS1, y_zipS2, v_revL, x_callF, y_callF, List.getElem?_cons_zero, List.getElem?_cons_succ, List.set_cons_zero, List.set_cons_succ, decide_true, decide_false, Int.reduceEq, Int.reduceLT, Int.reduceLE, decide_eq_true_eq, Bool.not_true, Bool.not_false, if_true, if_false, Bool.false_eq_true, e2], rfl, rfl⟩ ?_
  rintro _ _ ⟨rfl, rfl⟩
  refine step_ex (fun e m => e = [some (.frz (ns.map .int)), some (.ref 1), some (.int ch), some (.int wh), some (.int (room : Int)), none, none, none, none, none, none, none, none, none, none, none] ∧ m = mem s3 []) ⟨_, _, by simp -implicitDefEqProofs only [x_var, y_var, x_con, x_glob, x_bin, x_neg, x_cmp, x_chain, x_isN, x_notN, x_and, x_and1, x_or, x_or1, x_not, x_ife, x_call, x_callP, x_bi, x_isi, x_listRg, x_ix, x_sl, x_tup, x_lst, x_comp, x_compIf, x_box, x_pop, x_popAt, x_append, x_nil, x_cons, x_seq, x_rng1, x_rng2, x_zip, x_asg, x_setix, x_aug, x_ex, x_if, x_for, x_while, x_ret, x_brk, x_cont, x_bnil, x_bcons, y_rt1, y_rtB, y_bin1, y_bin2, y_cmp1, y_cmp2, y_neg, y_isN, y_notN, y_andT, y_andF, y_orT, y_orF, y_not, y_ifT, y_ifF, y_chain1, y_chain2, y_chainT, y_chainF, y_chain3, y_cons1, y_cons2, y_call, y_callP, y_bi, y_isi, y_ix1, y_ix2, y_tup0, y_tup1, y_tup2, y_tup3, y_tup4, y_lst0, y_lst1, y_lst2, y_lst3, y_lc, y_box, y_pop, y_popAt1, y_popAt2, y_append1, y_append2, y_rtL, y_seq, y_seqT, y_seqL, y_rng21, y_zip1, y_zip2, y_zipT, y_zipL, y_rtE, y_asg, y_set1, y_set2, y_set3, y_aug, y_augA, y_augS, y_ex, y_ifST, y_ifSF, y_for, y_ret, y_nx, y_rt, y_bk, y_ct, y_fnR, y_fnN, y_nm, y_tp, y_tgn, y_tgc, y_tgk, v_add, v_sub, v_eqI, v_eqS, v_eqB, v_neI, v_neS, v_neB, v_lt, v_le, v_gt, v_ge, v_lenT, v_lenL, v_lenF, v_tupL, v_tupT, v_listL, v_listT, v_intI, v_intB, v_max, v_min, v_ixT, v_ixL, v_at0, v_at1, v_at2, y_lst4, y_lst5, y_lst6, y_lst7, y_tup5, y_tup6, y_sl1, y_sl1i, y_sl2, y_sl2i, y_sl3, v_slF, v_slL, v_slT, w_0, w_1, y_part, y_sl1v, y_sl1b, y_sl1n, y_sl2v, y_sl2b, y_sl2n, v_isTT, v_isTI, v_isTB, v_isTS, v_isIT, v_isII, v_isIB, v_isIS, v_isBT, v_isBI, v_isBB, v_isBS, v_isST, v_isSI, v_isSB, v_isSS, v_isN, x_rev, x_join, x_fmt, x_fstr, x_zipS, y_rev, y_join1, y_join2, y_fmt, y_fstr, y_rtS, y_zipS1, y_zipS2, v_revL, x_callF, y_callF, List.getElem?_cons_zero, List.getElem?_cons_succ, List.set_cons_zero, List.set_cons_succ, decide_true, decide_false, Int.reduceEq, Int.reduceLT, Int.reduceLE, decide_eq_true_eq, Bool.not_true, Bool.not_false, if_true, if_false, Bool.false_eq_true, e3, erm], rfl, rfl⟩ ?_
  rintro _ _ ⟨rfl, rfl⟩
  refine step_ex (fun e m => e = [some (.frz (ns.map .int)), some (.ref 1), some (.int ch), some (.int wh), some (.int (room : Int)), some (.lst (n4.map .str)), none, none, none, none, none, none, none, none, none, none] ∧ m = mem s4 []) ⟨_, _, by simp -implicitDefEqProofs only [x_var, y_var, x_con, x_glob, x_bin, x_neg, x_cmp, x_chain, x_isN, x_notN, x_and, x_and1, x_or, x_or1, x_not, x_ife, x_call, x_callP, x_bi, x_isi, x_listRg, x_ix, x_sl, x_tup, x_lst, x_comp, x_compIf, x_box, x_pop, x_popAt, x_append, x_nil, x_cons, x_seq, x_rng1, x_rng2, x_zip, x_asg, x_setix, x_aug, x_ex, x_if, x_for, x_while, x_ret, x_brk, x_cont, x_bnil, x_bcons, y_rt1, y_rtB, y_bin1, y_bin2, y_cmp1, y_cmp2, y_neg, y_isN, y_notN, y_andT, y_andF, y_orT, y_orF, y_not, y_ifT, y_ifF, y_chain1, y_chain2, y_chainT, y_chainF, y_chain3, y_cons1, y_cons2, y_call, y_callP, y_bi, y_isi, y_ix1, y_ix2, y_tup0, y_tup1, y_tup2, y_tup3, y_tup4, y_lst0, y_lst1, y_lst2, y_lst3, y_lc, y_box, y_pop, y_popAt1, y_popAt2, y_append1, y_append2, y_rtL, y_seq, y_seqT, y_seqL, y_rng21, y_zip1, y_zip2, y_zipT, y_zipL, y_rtE, y_asg, y_set1, y_set2, y_set3, y_aug, y_augA, y_augS, y_ex, y_ifST, y_ifSF, y_for, y_ret, y_nx, y_rt, y_bk, y_ct, y_fnR, y_fnN, y_nm, y_tp, y_tgn, y_tgc, y_tgk, v_add, v_sub, v_eqI, v_eqS, v_eqB, v_neI, v_neS, v_neB, v_lt, v_le, v_gt, v_ge, v_lenT, v_lenL, v_lenF, v_tupL, v_tupT, v_listL, v_listT, v_intI, v_intB, v_max, v_min, v_ixT, v_ixL, v_at0, v_at1, v_at2, y_lst4, y_lst5, y_lst6, y_lst7, y_tup5, y_tup6, y_sl1, y_sl1i, y_sl2, y_sl2i, y_sl3, v_slF, v_slL, v_slT, w_0, w_1, y_part, y_sl1v, y_sl1b, y_sl1n, y_sl2v, y_sl2b, y_sl2n, v_isTT, v_isTI, v_isTB, v_isTS, v_isIT, v_isII, v_isIB, v_isIS, v_isBT, v_isBI, v_isBB, v_isBS, v_isST, v_isSI, v_isSB, v_isSS, v_isN, x_rev, x_join, x_fmt, x_fstr, x_zipS, y_rev, y_join1, y_join2, y_fmt, y_fstr, y_rtS, y_zipS1, y_zipS2, v_revL, x_callF, y_callF, List.getElem?_cons_zero, List.getElem?_cons_succ, List.set_cons_zero, List.set_cons_succ, decide_true, decide_false, Int.reduceEq, Int.reduceLT, Int.reduceLE, decide_eq_true_eq, Bool.not_true, Bool.not_false, if_true, if_false, Bool.false_eq_true, e4], rfl, rfl⟩ ?_
  rintro _ _ ⟨rfl, rfl⟩
  refine step_ex (fun e m => e = [some (.frz (ns.map .int)), some (.ref 1), some (.int ch), some (.int wh), some (.int (room : Int)), some (.lst (n4.map .str)), some (.lst (hd.map hdD)), none, none, none, none, none, none, none, none, none] ∧ m = mem s5 []) ⟨_, _, by simp -implicitDefEqProofs only [x_var, y_var, x_con, x_glob, x_bin, x_neg, x_cmp, x_chain, x_isN, x_notN, x_and, x_and1, x_or, x_or1, x_not, x_ife, x_call, x_callP, x_bi, x_isi, x_listRg, x_ix, x_sl, x_tup, x_lst, x_comp, x_compIf, x_box, x_pop, x_popAt, x_append, x_nil, x_cons, x_seq, x_rng1, x_rng2, x_zip, x_asg, x_setix, x_aug, x_ex, x_if, x_for, x_while, x_ret, x_brk, x_cont, x_bnil, x_bcons, y_rt1, y_rtB, y_bin1, y_bin2, y_cmp1, y_cmp2, y_neg, y_isN, y_notN, y_andT, y_andF, y_orT, y_orF, y_not, y_ifT, y_ifF, y_chain1, y_chain2, y_chainT, y_chainF, y_chain3, y_cons1, y_cons2, y_call, y_callP, y_bi, y_isi, y_ix1, y_ix2, y_tup0, y_tup1, y_tup2, y_tup3, y_tup4, y_lst0, y_lst1, y_lst2, y_lst3, y_lc, y_box, y_pop, y_popAt1, y_popAt2, y_append1, y_append2, y_rtL, y_seq, y_seqT, y_seqL, y_rng21, y_zip1, y_zip2, y_zipT, y_zipL, y_rtE, y_asg, y_set1, y_set2, y_set3, y_aug, y_augA, y_augS, y_ex, y_ifST, y_ifSF, y_for, y_ret, y_nx, y_rt, y_bk, y_ct, y_fnR, y_fnN, y_nm, y_tp, y_tgn, y_tgc, y_tgk, v_add, v_sub, v_eqI, v_eqS, v_eqB, v_neI, v_neS, v_neB, v_lt, v_le, v_gt, v_ge, v_lenT, v_lenL, v_lenF, v_tupL, v_tupT, v_listL, v_listT, v_intI, v_intB, v_max, v_min, v_ixT, v_ixL, v_at0, v_at1, v_at2, y_lst4, y_lst5, y_lst6, y_lst7, y_tup5, y_tup6, y_sl1, y_sl1i, y_sl2, y_sl2i, y_sl3, v_slF, v_slL, v_slT, w_0, w_1, y_part, y_sl1v, y_sl1b, y_sl1n, y_sl2v, y_sl2b, y_sl2n, v_isTT, v_isTI, v_isTB, v_isTS, v_isIT, v_isII, v_isIB, v_isIS, v_isBT, v_isBI, v_isBB, v_isBS, v_isST, v_isSI, v_isSB, v_isSS, v_isN, x_rev, x_join, x_fmt, x_fstr, x_zipS, y_rev, y_join1, y_join2, y_fmt, y_fstr, y_rtS, y_zipS1, y_zipS2, v_revL, x_callF, y_callF, List.getElem?_cons_zero, List.getElem?_cons_succ, List.set_cons_zero, List.set_cons_succ, decide_true, decide_false, Int.reduceEq, Int.reduceLT, Int.reduceLE, decide_eq_true_eq, Bool.not_true, Bool.not_false, if_true, if_false, Bool.false_eq_true, y_comp hll, hcm], rfl, rfl⟩ ?_
  rintro _ _ ⟨rfl, rfl⟩
  refine step_ex (fun e m => e = [some (.frz (ns.map .int)), some (.ref 1), some (.int ch), some (.int wh), some (.int (room : Int)), some (.lst (n4.map .str)), some (.lst (hd.map hdD)), some (.tup (hs.map .str)), none, none, none, none, none, none, none, none] ∧ m = mem s7 []) ⟨_, _, by simp -implicitDefEqProofs only [x_var, y_var, x_con, x_glob, x_bin, x_neg, x_cmp, x_chain, x_isN, x_notN, x_and, x_and1, x_or, x_or1, x_not, x_ife, x_call, x_callP, x_bi, x_isi, x_listRg, x_ix, x_sl, x_tup, x_lst, x_comp, x_compIf, x_box, x_pop, x_popAt, x_append, x_nil, x_cons, x_seq, x_rng1, x_rng2, x_zip, x_asg, x_setix, x_aug, x_ex, x_if, x_for, x_while, x_ret, x_brk, x_cont, x_bnil, x_bcons, y_rt1, y_rtB, y_bin1, y_bin2, y_cmp1, y_cmp2, y_neg, y_isN, y_notN, y_andT, y_andF, y_orT, y_orF, y_not, y_ifT, y_ifF, y_chain1, y_chain2, y_chainT, y_chainF, y_chain3, y_cons1, y_cons2, y_call, y_callP, y_bi, y_isi, y_ix1, y_ix2, y_tup0, y_tup1, y_tup2, y_tup3, y_tup4, y_lst0, y_lst1, y_lst2, y_lst3, y_lc, y_box, y_pop, y_popAt1, y_popAt2, y_append1, y_append2, y_rtL, y_seq, y_seqT, y_seqL, y_rng21, y_zip1, y_zip2, y_zipT, y_zipL, y_rtE, y_asg, y_set1, y_set2, y_set3, y_aug, y_augA, y_augS, y_ex, y_ifST, y_ifSF, y_for, y_ret, y_nx, y_rt, y_bk, y_ct, y_fnR, y_fnN, y_nm, y_tp, y_tgn, y_tgc, y_tgk, v_add, v_sub, v_eqI, v_eqS, v_eqB, v_neI, v_neS, v_neB, v_lt, v_le, v_gt, v_ge, v_lenT, v_lenL, v_lenF, v_tupL, v_tupT, v_listL, v_listT, v_intI, v_intB, v_max, v_min, v_ixT, v_ixL, v_at0, v_at1, v_at2, y_lst4, y_lst5, y_lst6, y_lst7, y_tup5, y_tup6, y_sl1, y_sl1i, y_sl2, y_sl2i, y_sl3, v_slF, v_slL, v_slT, w_0, w_1, y_part, y_sl1v, y_sl1b, y_sl1n, y_sl2v, y_sl2b, y_sl2n, v_isTT, v_isTI, v_isTB, v_isTS, v_isIT, v_isII, v_isIB, v_isIS, v_isBT, v_isBI, v_isBB, v_isBS, v_isST, v_isSI, v_isSB, v_isSS, v_isN, x_rev, x_join, x_fmt, x_fstr, x_zipS, y_rev, y_join1, y_join2, y_fmt, y_fstr, y_rtS, y_zipS1, y_zipS2, v_revL, x_callF, y_callF, List.getElem?_cons_zero, List.getElem?_cons_succ, List.set_cons_zero, List.set_cons_succ, decide_true, decide_false, Int.reduceEq, Int.reduceLT, Int.reduceLE, decide_eq_true_eq, Bool.not_true, Bool.not_false, if_true, if_false, Bool.false_eq_true, e6, e7], rfl, rfl⟩ ?_
  rintro _ _ ⟨rfl, rfl⟩
  refine step_ex (fun e m => e = [some (.frz (ns.map .int)), some (.ref 1), some (.int ch), some (.int wh), some (.int (room : Int)), some (.lst (n4.map .str)), some (.lst (hd.map hdD)), some (.tup (hs.map .str)), some (toK x), none, none, none, none, none, none, none] ∧ m = mem s9 []) ⟨_, _, by simp -implicitDefEqProofs only [x_var, y_var, x_con, x_glob, x_bin, x_neg, x_cmp, x_chain, x_isN, x_notN, x_and, x_and1, x_or, x_or1, x_not, x_ife, x_call, x_callP, x_bi, x_isi, x_listRg, x_ix, x_sl, x_tup, x_lst, x_comp, x_compIf, x_box, x_pop, x_popAt, x_append, x_nil, x_cons, x_seq, x_rng1, x_rng2, x_zip, x_asg, x_setix, x_aug, x_ex, x_if, x_for, x_while, x_ret, x_brk, x_cont, x_bnil, x_bcons, y_rt1, y_rtB, y_bin1, y_bin2, y_cmp1, y_cmp2, y_neg, y_isN, y_notN, y_andT, y_andF, y_orT, y_orF, y_not, y_ifT, y_ifF, y_chain1, y_chain2, y_chainT, y_chainF, y_chain3, y_cons1, y_cons2, y_call, y_callP, y_bi, y_isi, y_ix1, y_ix2, y_tup0, y_tup1, y_tup2, y_tup3, y_tup4, y_lst0, y_lst1, y_lst2, y_lst3, y_lc, y_box, y_pop, y_popAt1, y_popAt2, y_append1, y_append2, y_rtL, y_seq, y_seqT, y_seqL, y_rng21, y_zip1, y_zip2, y_zipT, y_zipL, y_rtE, y_asg, y_set1, y_set2, y_set3, y_aug, y_augA, y_augS, y_ex, y_ifST, y_ifSF, y_for, y_ret, y_nx, y_rt, y_bk, y_ct, y_fnR, y_fnN, y_nm, y_tp, y_tgn, y_tgc, y_tgk, v_add, v_sub, v_eqI, v_eqS, v_eqB, v_neI, v_neS, v_neB, v_lt, v_le, v_gt, v_ge, v_lenT, v_lenL, v_lenF, v_tupL, v_tupT, v_listL, v_listT, v_intI, v_intB, v_max, v_min, v_ixT, v_ixL, v_at0, v_at1, v_at2, y_lst4, y_lst5, y_lst6, y_lst7, y_tup5, y_tup6, y_sl1, y_sl1i, y_sl2, y_sl2i, y_sl3, v_slF, v_slL, v_slT, w_0, w_1, y_part, y_sl1v, y_sl1b, y_sl1n, y_sl2v, y_sl2b, y_sl2n, v_isTT, v_isTI, v_isTB, v_isTS, v_isIT, v_isII, v_isIB, v_isIS, v_isBT, v_isBI, v_isBB, v_isBS, v_isST, v_isSI, v_isSB, v_isSS, v_isN, x_rev, x_join, x_fmt, x_fstr, x_zipS, y_rev, y_join1, y_join2, y_fmt, y_fstr, y_rtS, y_zipS1, y_zipS2, v_revL, x_callF, y_callF, List.getElem?_cons_zero, List.getElem?_cons_succ, List.set_cons_zero, List.set_cons_succ, decide_true, decide_false, Int.reduceEq, Int.reduceLT, Int.reduceLE, decide_eq_true_eq, Bool.not_true, Bool.not_false, if_true, if_false, Bool.false_eq_true, e8, e9], rfl, rfl⟩ ?_
  rintro _ _ ⟨rfl, rfl⟩
  refine step_ex (fun e m => e = [some (.frz (ns.map .int)), some (.ref 1), some (.int ch), some (.int wh), some (.int (room : Int)), some (.lst (n4.map .str)), some (.lst (hd.map hdD)), some (.tup (hs.map .str)), some (toK x), some (toK y), none, none, none, none, none, none] ∧ m = mem sB []) ⟨_, _, by simp -implicitDefEqProofs only [x_var, y_var, x_con, x_glob, x_bin, x_neg, x_cmp, x_chain, x_isN, x_notN, x_and, x_and1, x_or, x_or1, x_not, x_ife, x_call, x_callP, x_bi, x_isi, x_listRg, x_ix, x_sl, x_tup, x_lst, x_comp, x_compIf, x_box, x_pop, x_popAt, x_append, x_nil, x_cons, x_seq, x_rng1, x_rng2, x_zip, x_asg, x_setix, x_aug, x_ex, x_if, x_for, x_while, x_ret, x_brk, x_cont, x_bnil, x_bcons, y_rt1, y_rtB, y_bin1, y_bin2, y_cmp1, y_cmp2, y_neg, y_isN, y_notN, y_andT, y_andF, y_orT, y_orF, y_not, y_ifT, y_ifF, y_chain1, y_chain2, y_chainT, y_chainF, y_chain3, y_cons1, y_cons2, y_call, y_callP, y_bi, y_isi, y_ix1, y_ix2, y_tup0, y_tup1, y_tup2, y_tup3, y_tup4, y_lst0, y_lst1, y_lst2, y_lst3, y_lc, y_box, y_pop, y_popAt1, y_popAt2, y_append1, y_append2, y_rtL, y_seq, y_seqT, y_seqL, y_rng21, y_zip1, y_zip2, y_zipT, y_zipL, y_rtE, y_asg, y_set1, y_set2, y_set3, y_aug, y_augA, y_augS, y_ex, y_ifST, y_ifSF, y_for, y_ret, y_nx, y_rt, y_bk, y_ct, y_fnR, y_fnN, y_nm, y_tp, y_tgn, y_tgc, y_tgk, v_add, v_sub, v_eqI, v_eqS, v_eqB, v_neI, v_neS, v_neB, v_lt, v_le, v_gt, v_ge, v_lenT, v_lenL, v_lenF, v_tupL, v_tupT, v_listL, v_listT, v_intI, v_intB, v_max, v_min, v_ixT, v_ixL, v_at0, v_at1, v_at2, y_lst4, y_lst5, y_lst6, y_lst7, y_tup5, y_tup6, y_sl1, y_sl1i, y_sl2, y_sl2i, y_sl3, v_slF, v_slL, v_slT, w_0, w_1, y_part, y_sl1v, y_sl1b, y_sl1n, y_sl2v, y_sl2b, y_sl2n, v_isTT, v_isTI, v_isTB, v_isTS, v_isIT, v_isII, v_isIB, v_isIS, v_isBT, v_isBI, v_isBB, v_isBS, v_isST, v_isSI, v_isSB, v_isSS, v_isN, x_rev, x_join, x_fmt, x_fstr, x_zipS, y_rev, y_join1, y_join2, y_fmt, y_fstr, y_rtS, y_zipS1, y_zipS2, v_revL, x_callF, y_callF, List.getElem?_cons_zero, List.getElem?_cons_succ, List.set_cons_zero, List.set_cons_succ, decide_true, decide_false, Int.reduceEq, Int.reduceLT, Int.reduceLE, decide_eq_true_eq, Bool.not_true, Bool.not_false, if_true, if_false, Bool.false_eq_true, eA, eB], rfl, rfl⟩ ?_
  rintro _ _ ⟨rfl, rfl⟩
  -- the other one
  refine step_ex (fun e m => ∃ z a12 a14 a15 sC, e = [some (.frz (ns.map .int)), some (.ref 1), some (.int ch), some (.int wh), some (.int (room : Int)), some (.lst (n4.map .str)), some (.lst (hd.map hdD)), some (.tup (hs.map .str)), some (toK x), some (toK z), none, none, a12, none, a14, a15] ∧ m = mem sC [] ∧ wf z = true ∧ kz z ≤ 60) ?_ ?_
  · by_cases hch : 0 < ch
    · obtain ⟨fs, eC, hne, hfs⟩ := forms_ok (G := GG) (n := 148) wx (by omega) sB
      have eC : kFresh (mem sB []) (run tab GG 150 10 [toK x] (mem sB [])) = some (.lst (fs.map qD), mem sB []) := eC
      have hfl : 0 < fs.length := List.length_pos_iff.mpr hne
      obtain ⟨j, hj, ej⟩ : ∃ j : Nat, j < fs.length ∧ (wh % ((fs.map qD).length : Int)) = (j : Int) := by
        have h1 := Int.emod_nonneg wh (show ((fs.length : Int)) ≠ 0 by omega)
        have h2 := Int.emod_lt_of_pos wh (show 0 < (fs.length : Int) by omega)
        refine ⟨(wh % (fs.length : Int)).toNat, by omega, ?_⟩
        rw [List.length_map]
        omega
      have hlp : (0 : Int) < ((fs.map qD).length : Int) := by rw [List.length_map]; omega
      obtain ⟨hat, hpl⟩ := hfs fs[j] (List.getElem_mem hj)
      have eat : atD (fs.map qD) (j : Int) = some (.tup [.tup (fs[j].1.map nD), toK fs[j].2]) := atD_nat (by simp [hj, qD])
      generalize fs[j].1 = p at *
      generalize fs[j].2 = h at *
      obtain ⟨g1, g2, g3⟩ := hat.ok wx
      have okx := ok_k wx (by omega)
      have hzh : kz h ≤ 200 := by
        have := (g3 .truth rfl)
        obtain ⟨k', _, _, e⟩ := this
        simp only [kz] at e
        have := kz_pos k'
        omega
      obtain ⟨h', sC, eD, wh', zh', kC, oC⟩ := turned_ok (G := GG) (n := 146) h7 (by omega) g2 hzh sB oB (by omega)
      have eD : run tab GG 150 13 [.ref 1, toK h, .tup (hs.map .str)] (mem sB []) = some (toK h', mem sC []) := eD
      obtain ⟨z, z1, z2, z3⟩ := g3 h' wh'
      obtain ⟨eP, oP⟩ := put_ok (G := GG) (ok_k wh' (by omega)) (m := mem sC []) p (149 - p.length) (3 * kz x) (toK x) (toK h) okx (by omega) g1
      rw [show 149 - p.length + p.length + 1 = 150 by omega, z1] at eP
      rw [z1] at oP
      refine ⟨_, mem sC [], ?_, z, some (.lst (fs.map qD)), some (.tup (p.map nD)), some (toK h), sC, rfl, rfl, z2, by omega⟩
      simp -implicitDefEqProofs only [x_var, y_var, x_con, x_glob, x_bin, x_neg, x_cmp, x_chain, x_isN, x_notN, x_and, x_and1, x_or, x_or1, x_not, x_ife, x_call, x_callP, x_bi, x_isi, x_listRg, x_ix, x_sl, x_tup, x_lst, x_comp, x_compIf, x_box, x_pop, x_popAt, x_append, x_nil, x_cons, x_seq, x_rng1, x_rng2, x_zip, x_asg, x_setix, x_aug, x_ex, x_if, x_for, x_while, x_ret, x_brk, x_cont, x_bnil, x_bcons, y_rt1, y_rtB, y_bin1, y_bin2, y_cmp1, y_cmp2, y_neg, y_isN, y_notN, y_andT, y_andF, y_orT, y_orF, y_not, y_ifT, y_ifF, y_chain1, y_chain2, y_chainT, y_chainF, y_chain3, y_cons1, y_cons2, y_call, y_callP, y_bi, y_isi, y_ix1, y_ix2, y_tup0, y_tup1, y_tup2, y_tup3, y_tup4, y_lst0, y_lst1, y_lst2, y_lst3, y_lc, y_box, y_pop, y_popAt1, y_popAt2, y_append1, y_append2, y_rtL, y_seq, y_seqT, y_seqL, y_rng21, y_zip1, y_zip2, y_zipT, y_zipL, y_rtE, y_asg, y_set1, y_set2, y_set3, y_aug, y_augA, y_augS, y_ex, y_ifST, y_ifSF, y_for, y_ret, y_nx, y_rt, y_bk, y_ct, y_fnR, y_fnN, y_nm, y_tp, y_tgn, y_tgc, y_tgk, v_add, v_sub, v_eqI, v_eqS, v_eqB, v_neI, v_neS, v_neB, v_lt, v_le, v_gt, v_ge, v_lenT, v_lenL, v_lenF, v_tupL, v_tupT, v_listL, v_listT, v_intI, v_intB, v_max, v_min, v_ixT, v_ixL, v_at0, v_at1, v_at2, y_lst4, y_lst5, y_lst6, y_lst7, y_tup5, y_tup6, y_sl1, y_sl1i, y_sl2, y_sl2i, y_sl3, v_slF, v_slL, v_slT, w_0, w_1, y_part, y_sl1v, y_sl1b, y_sl1n, y_sl2v, y_sl2b, y_sl2n, v_isTT, v_isTI, v_isTB, v_isTS, v_isIT, v_isII, v_isIB, v_isIS, v_isBT, v_isBI, v_isBB, v_isBS, v_isST, v_isSI, v_isSB, v_isSS, v_isN, x_rev, x_join, x_fmt, x_fstr, x_zipS, y_rev, y_join1, y_join2, y_fmt, y_fstr, y_rtS, y_zipS1, y_zipS2, v_revL, x_callF, y_callF, List.getElem?_cons_zero, List.getElem?_cons_succ, List.set_cons_zero, List.set_cons_succ, decide_true, decide_false, Int.reduceEq, Int.reduceLT, Int.reduceLE, decide_eq_true_eq, Bool.not_true, Bool.not_false, if_true, if_false, Bool.false_eq_true, hch, eC, v_mod hlp, ej, eat, eD, eP, y_pure (okN_pure oP).1]
    · exact ⟨_, mem sB [], by simp -implicitDefEqProofs only [x_var, y_var, x_con, x_glob, x_bin, x_neg, x_cmp, x_chain, x_isN, x_notN, x_and, x_and1, x_or, x_or1, x_not, x_ife, x_call, x_callP, x_bi, x_isi, x_listRg, x_ix, x_sl, x_tup, x_lst, x_comp, x_compIf, x_box, x_pop, x_popAt, x_append, x_nil, x_cons, x_seq, x_rng1, x_rng2, x_zip, x_asg, x_setix, x_aug, x_ex, x_if, x_for, x_while, x_ret, x_brk, x_cont, x_bnil, x_bcons, y_rt1, y_rtB, y_bin1, y_bin2, y_cmp1, y_cmp2, y_neg, y_isN, y_notN, y_andT, y_andF, y_orT, y_orF, y_not, y_ifT, y_ifF, y_chain1, y_chain2, y_chainT, y_chainF, y_chain3, y_cons1, y_cons2, y_call, y_callP, y_bi, y_isi, y_ix1, y_ix2, y_tup0, y_tup1, y_tup2, y_tup3, y_tup4, y_lst0, y_lst1, y_lst2, y_lst3, y_lc, y_box, y_pop, y_popAt1, y_popAt2, y_append1, y_append2, y_rtL, y_seq, y_seqT, y_seqL, y_rng21, y_zip1, y_zip2, y_zipT, y_zipL, y_rtE, y_asg, y_set1, y_set2, y_set3, y_aug, y_augA, y_augS, y_ex, y_ifST, y_ifSF, y_for, y_ret, y_nx, y_rt, y_bk, y_ct, y_fnR, y_fnN, y_nm, y_tp, y_tgn, y_tgc, y_tgk, v_add, v_sub, v_eqI, v_eqS, v_eqB, v_neI, v_neS, v_neB, v_lt, v_le, v_gt, v_ge, v_lenT, v_lenL, v_lenF, v_tupL, v_tupT, v_listL, v_listT, v_intI, v_intB, v_max, v_min, v_ixT, v_ixL, v_at0, v_at1, v_at2, y_lst4, y_lst5, y_lst6, y_lst7, y_tup5, y_tup6, y_sl1, y_sl1i, y_sl2, y_sl2i, y_sl3, v_slF, v_slL, v_slT, w_0, w_1, y_part, y_sl1v, y_sl1b, y_sl1n, y_sl2v, y_sl2b, y_sl2n, v_isTT, v_isTI, v_isTB, v_isTS, v_isIT, v_isII, v_isIB, v_isIS, v_isBT, v_isBI, v_isBB, v_isBS, v_isST, v_isSI, v_isSB, v_isSS, v_isN, x_rev, x_join, x_fmt, x_fstr, x_zipS, y_rev, y_join1, y_join2, y_fmt, y_fstr, y_rtS, y_zipS1, y_zipS2, v_revL, x_callF, y_callF, List.getElem?_cons_zero, List.getElem?_cons_succ, List.set_cons_zero, List.set_cons_succ, decide_true, decide_false, Int.reduceEq, Int.reduceLT, Int.reduceLE, decide_eq_true_eq, Bool.not_true, Bool.not_false, if_true, if_false, Bool.false_eq_true, hch], y, none, none, none, sB, rfl, rfl, wy, by omega⟩
  rintro _ _ ⟨z, a12, a14, a15, sC, rfl, rfl, wz, zz⟩
  have shx := shown_ok (G := GG) x 149 (mem sC []) wx (by omega) (by omega)
  have shz := shown_ok (G := GG) z 149 (mem sC []) wz (by omega) (by omega)
  have tx := text_ok (G := GG) x 149 (mem sC []) wx (by omega) (by omega)
  have tz' := text_ok (G := GG) z 149 (mem sC []) wz (by omega) (by omega)
  have ps : ∀ t : Str, pure_ (.str t) = true := fun _ => rfl
  refine step_ex (fun e m => e = [some (.frz (ns.map .int)), some (.ref 1), some (.int ch), some (.int wh), some (.int (room : Int)), some (.lst (n4.map .str)), some (.lst (hd.map hdD)), some (.tup (hs.map .str)), some (toK x), some (toK z), some (.str (txt x)), none, a12, none, a14, a15] ∧ m = mem sC []) ⟨_, _, by simp -implicitDefEqProofs only [x_var, y_var, x_con, x_glob, x_bin, x_neg, x_cmp, x_chain, x_isN, x_notN, x_and, x_and1, x_or, x_or1, x_not, x_ife, x_call, x_callP, x_bi, x_isi, x_listRg, x_ix, x_sl, x_tup, x_lst, x_comp, x_compIf, x_box, x_pop, x_popAt, x_append, x_nil, x_cons, x_seq, x_rng1, x_rng2, x_zip, x_asg, x_setix, x_aug, x_ex, x_if, x_for, x_while, x_ret, x_brk, x_cont, x_bnil, x_bcons, y_rt1, y_rtB, y_bin1, y_bin2, y_cmp1, y_cmp2, y_neg, y_isN, y_notN, y_andT, y_andF, y_orT, y_orF, y_not, y_ifT, y_ifF, y_chain1, y_chain2, y_chainT, y_chainF, y_chain3, y_cons1, y_cons2, y_call, y_callP, y_bi, y_isi, y_ix1, y_ix2, y_tup0, y_tup1, y_tup2, y_tup3, y_tup4, y_lst0, y_lst1, y_lst2, y_lst3, y_lc, y_box, y_pop, y_popAt1, y_popAt2, y_append1, y_append2, y_rtL, y_seq, y_seqT, y_seqL, y_rng21, y_zip1, y_zip2, y_zipT, y_zipL, y_rtE, y_asg, y_set1, y_set2, y_set3, y_aug, y_augA, y_augS, y_ex, y_ifST, y_ifSF, y_for, y_ret, y_nx, y_rt, y_bk, y_ct, y_fnR, y_fnN, y_nm, y_tp, y_tgn, y_tgc, y_tgk, v_add, v_sub, v_eqI, v_eqS, v_eqB, v_neI, v_neS, v_neB, v_lt, v_le, v_gt, v_ge, v_lenT, v_lenL, v_lenF, v_tupL, v_tupT, v_listL, v_listT, v_intI, v_intB, v_max, v_min, v_ixT, v_ixL, v_at0, v_at1, v_at2, y_lst4, y_lst5, y_lst6, y_lst7, y_tup5, y_tup6, y_sl1, y_sl1i, y_sl2, y_sl2i, y_sl3, v_slF, v_slL, v_slT, w_0, w_1, y_part, y_sl1v, y_sl1b, y_sl1n, y_sl2v, y_sl2b, y_sl2n, v_isTT, v_isTI, v_isTB, v_isTS, v_isIT, v_isII, v_isIB, v_isIS, v_isBT, v_isBI, v_isBB, v_isBS, v_isST, v_isSI, v_isSB, v_isSS, v_isN, x_rev, x_join, x_fmt, x_fstr, x_zipS, y_rev, y_join1, y_join2, y_fmt, y_fstr, y_rtS, y_zipS1, y_zipS2, v_revL, x_callF, y_callF, List.getElem?_cons_zero, List.getElem?_cons_succ, List.set_cons_zero, List.set_cons_succ, decide_true, decide_false, Int.reduceEq, Int.reduceLT, Int.reduceLE, decide_eq_true_eq, Bool.not_true, Bool.not_false, if_true, if_false, Bool.false_eq_true, shx, y_pure (ps (txt x))], rfl, rfl⟩ ?_
  rintro _ _ ⟨rfl, rfl⟩
  refine step_ex (fun e m => e = [some (.frz (ns.map .int)), some (.ref 1), some (.int ch), some (.int wh), some (.int (room : Int)), some (.lst (n4.map .str)), some (.lst (hd.map hdD)), some (.tup (hs.map .str)), some (toK x), some (toK z), some (.str (txt x)), some (.str (txt z)), a12, none, a14, a15] ∧ m = mem sC []) ⟨_, _, by simp -implicitDefEqProofs only [x_var, y_var, x_con, x_glob, x_bin, x_neg, x_cmp, x_chain, x_isN, x_notN, x_and, x_and1, x_or, x_or1, x_not, x_ife, x_call, x_callP, x_bi, x_isi, x_listRg, x_ix, x_sl, x_tup, x_lst, x_comp, x_compIf, x_box, x_pop, x_popAt, x_append, x_nil, x_cons, x_seq, x_rng1, x_rng2, x_zip, x_asg, x_setix, x_aug, x_ex, x_if, x_for, x_while, x_ret, x_brk, x_cont, x_bnil, x_bcons, y_rt1, y_rtB, y_bin1, y_bin2, y_cmp1, y_cmp2, y_neg, y_isN, y_notN, y_andT, y_andF, y_orT, y_orF, y_not, y_ifT, y_ifF, y_chain1, y_chain2, y_chainT, y_chainF, y_chain3, y_cons1, y_cons2, y_call, y_callP, y_bi, y_isi, y_ix1, y_ix2, y_tup0, y_tup1, y_tup2, y_tup3, y_tup4, y_lst0, y_lst1, y_lst2, y_lst3, y_lc, y_box, y_pop, y_popAt1, y_popAt2, y_append1, y_append2, y_rtL, y_seq, y_seqT, y_seqL, y_rng21, y_zip1, y_zip2, y_zipT, y_zipL, y_rtE, y_asg, y_set1, y_set2, y_set3, y_aug, y_augA, y_augS, y_ex, y_ifST, y_ifSF, y_for, y_ret, y_nx, y_rt, y_bk, y_ct, y_fnR, y_fnN, y_nm, y_tp, y_tgn, y_tgc, y_tgk, v_add, v_sub, v_eqI, v_eqS, v_eqB, v_neI, v_neS, v_neB, v_lt, v_le, v_gt, v_ge, v_lenT, v_lenL, v_lenF, v_tupL, v_tupT, v_listL, v_listT, v_intI, v_intB, v_max, v_min, v_ixT, v_ixL, v_at0, v_at1, v_at2, y_lst4, y_lst5, y_lst6, y_lst7, y_tup5, y_tup6, y_sl1, y_sl1i, y_sl2, y_sl2i, y_sl3, v_slF, v_slL, v_slT, w_0, w_1, y_part, y_sl1v, y_sl1b, y_sl1n, y_sl2v, y_sl2b, y_sl2n, v_isTT, v_isTI, v_isTB, v_isTS, v_isIT, v_isII, v_isIB, v_isIS, v_isBT, v_isBI, v_isBB, v_isBS, v_isST, v_isSI, v_isSB, v_isSS, v_isN, x_rev, x_join, x_fmt, x_fstr, x_zipS, y_rev, y_join1, y_join2, y_fmt, y_fstr, y_rtS, y_zipS1, y_zipS2, v_revL, x_callF, y_callF, List.getElem?_cons_zero, List.getElem?_cons_succ, List.set_cons_zero, List.set_cons_succ, decide_true, decide_false, Int.reduceEq, Int.reduceLT, Int.reduceLE, decide_eq_true_eq, Bool.not_true, Bool.not_false, if_true, if_false, Bool.false_eq_true, shz, y_pure (ps (txt z))], rfl, rfl⟩ ?_
  rintro _ _ ⟨rfl, rfl⟩
  refine step_ex (fun e m => e = [some (.frz (ns.map .int)), some (.ref 1), some (.int ch), some (.int wh), some (.int (room : Int)), some (.lst (n4.map .str)), some (.lst (hd.map hdD)), some (.tup (hs.map .str)), some (toK x), some (toK z), some (.str (txt x)), some (.str (txt z)), a12, none, a14, a15] ∧ m = mem sC []) ⟨_, _, by simp -implicitDefEqProofs only [x_var, y_var, x_con, x_glob, x_bin, x_neg, x_cmp, x_chain, x_isN, x_notN, x_and, x_and1, x_or, x_or1, x_not, x_ife, x_call, x_callP, x_bi, x_isi, x_listRg, x_ix, x_sl, x_tup, x_lst, x_comp, x_compIf, x_box, x_pop, x_popAt, x_append, x_nil, x_cons, x_seq, x_rng1, x_rng2, x_zip, x_asg, x_setix, x_aug, x_ex, x_if, x_for, x_while, x_ret, x_brk, x_cont, x_bnil, x_bcons, y_rt1, y_rtB, y_bin1, y_bin2, y_cmp1, y_cmp2, y_neg, y_isN, y_notN, y_andT, y_andF, y_orT, y_orF, y_not, y_ifT, y_ifF, y_chain1, y_chain2, y_chainT, y_chainF, y_chain3, y_cons1, y_cons2, y_call, y_callP, y_bi, y_isi, y_ix1, y_ix2, y_tup0, y_tup1, y_tup2, y_tup3, y_tup4, y_lst0, y_lst1, y_lst2, y_lst3, y_lc, y_box, y_pop, y_popAt1, y_popAt2, y_append1, y_append2, y_rtL, y_seq, y_seqT, y_seqL, y_rng21, y_zip1, y_zip2, y_zipT, y_zipL, y_rtE, y_asg, y_set1, y_set2, y_set3, y_aug, y_augA, y_augS, y_ex, y_ifST, y_ifSF, y_for, y_ret, y_nx, y_rt, y_bk, y_ct, y_fnR, y_fnN, y_nm, y_tp, y_tgn, y_tgc, y_tgk, v_add, v_sub, v_eqI, v_eqS, v_eqB, v_neI, v_neS, v_neB, v_lt, v_le, v_gt, v_ge, v_lenT, v_lenL, v_lenF, v_tupL, v_tupT, v_listL, v_listT, v_intI, v_intB, v_max, v_min, v_ixT, v_ixL, v_at0, v_at1, v_at2, y_lst4, y_lst5, y_lst6, y_lst7, y_tup5, y_tup6, y_sl1, y_sl1i, y_sl2, y_sl2i, y_sl3, v_slF, v_slL, v_slT, w_0, w_1, y_part, y_sl1v, y_sl1b, y_sl1n, y_sl2v, y_sl2b, y_sl2n, v_isTT, v_isTI, v_isTB, v_isTS, v_isIT, v_isII, v_isIB, v_isIS, v_isBT, v_isBI, v_isBB, v_isBS, v_isST, v_isSI, v_isSB, v_isSS, v_isN, x_rev, x_join, x_fmt, x_fstr, x_zipS, y_rev, y_join1, y_join2, y_fmt, y_fstr, y_rtS, y_zipS1, y_zipS2, v_revL, x_callF, y_callF, List.getElem?_cons_zero, List.getElem?_cons_succ, List.set_cons_zero, List.set_cons_succ, decide_true, decide_false, Int.reduceEq, Int.reduceLT, Int.reduceLE, decide_eq_true_eq, Bool.not_true, Bool.not_false, if_true, if_false, Bool.false_eq_true, tx, y_pure (ps (txt x))], rfl, rfl⟩ ?_
  rintro _ _ ⟨rfl, rfl⟩
  refine step_ex (fun e m => e = [some (.frz (ns.map .int)), some (.ref 1), some (.int ch), some (.int wh), some (.int (room : Int)), some (.lst (n4.map .str)), some (.lst (hd.map hdD)), some (.tup (hs.map .str)), some (toK x), some (toK z), some (.str (txt x)), some (.str (txt z)), a12, none, a14, a15] ∧ m = mem sC []) ⟨_, _, by simp -implicitDefEqProofs only [x_var, y_var, x_con, x_glob, x_bin, x_neg, x_cmp, x_chain, x_isN, x_notN, x_and, x_and1, x_or, x_or1, x_not, x_ife, x_call, x_callP, x_bi, x_isi, x_listRg, x_ix, x_sl, x_tup, x_lst, x_comp, x_compIf, x_box, x_pop, x_popAt, x_append, x_nil, x_cons, x_seq, x_rng1, x_rng2, x_zip, x_asg, x_setix, x_aug, x_ex, x_if, x_for, x_while, x_ret, x_brk, x_cont, x_bnil, x_bcons, y_rt1, y_rtB, y_bin1, y_bin2, y_cmp1, y_cmp2, y_neg, y_isN, y_notN, y_andT, y_andF, y_orT, y_orF, y_not, y_ifT, y_ifF, y_chain1, y_chain2, y_chainT, y_chainF, y_chain3, y_cons1, y_cons2, y_call, y_callP, y_bi, y_isi, y_ix1, y_ix2, y_tup0, y_tup1, y_tup2, y_tup3, y_tup4, y_lst0, y_lst1, y_lst2, y_lst3, y_lc, y_box, y_pop, y_popAt1, y_popAt2, y_append1, y_append2, y_rtL, y_seq, y_seqT, y_seqL, y_rng21, y_zip1, y_zip2, y_zipT, y_zipL, y_rtE, y_asg, y_set1, y_set2, y_set3, y_aug, y_augA, y_augS, y_ex, y_ifST, y_ifSF, y_for, y_ret, y_nx, y_rt, y_bk, y_ct, y_fnR, y_fnN, y_nm, y_tp, y_tgn, y_tgc, y_tgk, v_add, v_sub, v_eqI, v_eqS, v_eqB, v_neI, v_neS, v_neB, v_lt, v_le, v_gt, v_ge, v_lenT, v_lenL, v_lenF, v_tupL, v_tupT, v_listL, v_listT, v_intI, v_intB, v_max, v_min, v_ixT, v_ixL, v_at0, v_at1, v_at2, y_lst4, y_lst5, y_lst6, y_lst7, y_tup5, y_tup6, y_sl1, y_sl1i, y_sl2, y_sl2i, y_sl3, v_slF, v_slL, v_slT, w_0, w_1, y_part, y_sl1v, y_sl1b, y_sl1n, y_sl2v, y_sl2b, y_sl2n, v_isTT, v_isTI, v_isTB, v_isTS, v_isIT, v_isII, v_isIB, v_isIS, v_isBT, v_isBI, v_isBB, v_isBS, v_isST, v_isSI, v_isSB, v_isSS, v_isN, x_rev, x_join, x_fmt, x_fstr, x_zipS, y_rev, y_join1, y_join2, y_fmt, y_fstr, y_rtS, y_zipS1, y_zipS2, v_revL, x_callF, y_callF, List.getElem?_cons_zero, List.getElem?_cons_succ, List.set_cons_zero, List.set_cons_succ, decide_true, decide_false, Int.reduceEq, Int.reduceLT, Int.reduceLE, decide_eq_true_eq, Bool.not_true, Bool.not_false, if_true, if_false, Bool.false_eq_true, tz', y_pure (ps (txt z))], rfl, rfl⟩ ?_
  rintro _ _ ⟨rfl, rfl⟩
  have okx : okN 200 (toK x) = true := okN_le (ok_k wx (by omega)) (by omega)
  have okz : okN 200 (toK z) = true := okN_le (ok_k wz (by omega)) (by omega)
  have szx := sz_k x
  obtain ⟨g, es⟩ := same_ok (G := GG) (k := 149) okx okz (by omega) (mem sC [])
  have ee : decide (txt x = txt z) = decide (toK x = toK z) := by
    rw [decide_eq_decide]
    constructor
    · intro e
      have := (inj x z (r := []) (r' := []) wx wz rfl rfl (by rw [e])).1
      rw [this]
    · intro e
      rw [e, shz] at shx
      simpa using shx.symm
  refine ⟨mem sC [], ?_⟩
  simp -implicitDefEqProofs only [x_var, y_var, x_con, x_glob, x_bin, x_neg, x_cmp, x_chain, x_isN, x_notN, x_and, x_and1, x_or, x_or1, x_not, x_ife, x_call, x_callP, x_bi, x_isi, x_listRg, x_ix, x_sl, x_tup, x_lst, x_comp, x_compIf, x_box, x_pop, x_popAt, x_append, x_nil, x_cons, x_seq, x_rng1, x_rng2, x_zip, x_asg, x_setix, x_aug, x_ex, x_if, x_for, x_while, x_ret, x_brk, x_cont, x_bnil, x_bcons, y_rt1, y_rtB, y_bin1, y_bin2, y_cmp1, y_cmp2, y_neg, y_isN, y_notN, y_andT, y_andF, y_orT, y_orF, y_not, y_ifT, y_ifF, y_chain1, y_chain2, y_chainT, y_chainF, y_chain3, y_cons1, y_cons2, y_call, y_callP, y_bi, y_isi, y_ix1, y_ix2, y_tup0, y_tup1, y_tup2, y_tup3, y_tup4, y_lst0, y_lst1, y_lst2, y_lst3, y_lc, y_box, y_pop, y_popAt1, y_popAt2, y_append1, y_append2, y_rtL, y_seq, y_seqT, y_seqL, y_rng21, y_zip1, y_zip2, y_zipT, y_zipL, y_rtE, y_asg, y_set1, y_set2, y_set3, y_aug, y_augA, y_augS, y_ex, y_ifST, y_ifSF, y_for, y_ret, y_nx, y_rt, y_bk, y_ct, y_fnR, y_fnN, y_nm, y_tp, y_tgn, y_tgc, y_tgk, v_add, v_sub, v_eqI, v_eqS, v_eqB, v_neI, v_neS, v_neB, v_lt, v_le, v_gt, v_ge, v_lenT, v_lenL, v_lenF, v_tupL, v_tupT, v_listL, v_listT, v_intI, v_intB, v_max, v_min, v_ixT, v_ixL, v_at0, v_at1, v_at2, y_lst4, y_lst5, y_lst6, y_lst7, y_tup5, y_tup6, y_sl1, y_sl1i, y_sl2, y_sl2i, y_sl3, v_slF, v_slL, v_slT, w_0, w_1, y_part, y_sl1v, y_sl1b, y_sl1n, y_sl2v, y_sl2b, y_sl2n, v_isTT, v_isTI, v_isTB, v_isTS, v_isIT, v_isII, v_isIB, v_isIS, v_isBT, v_isBI, v_isBB, v_isBS, v_isST, v_isSI, v_isSB, v_isSS, v_isN, x_rev, x_join, x_fmt, x_fstr, x_zipS, y_rev, y_join1, y_join2, y_fmt, y_fstr, y_rtS, y_zipS1, y_zipS2, v_revL, x_callF, y_callF, List.getElem?_cons_zero, List.getElem?_cons_succ, List.set_cons_zero, List.set_cons_succ, decide_true, decide_false, Int.reduceEq, Int.reduceLT, Int.reduceLE, decide_eq_true_eq, Bool.not_true, Bool.not_false, if_true, if_false, Bool.false_eq_true, es, y_pureG (show pure_ (.bl (decide (toK x = toK z))) = true from rfl), ee, beq_self_eq_true, shx, y_pure (ps (txt x))]
end Lw

namespace Lw
open PySem Pv L2
def top (i : Nat) : Stmt := PySem.Challenge.pw_packedforms_k02_kinds_shown.main.body.getD i (.Pass ⟨0, 0, 0, 0⟩)
theorem ck_0 : (scB f_has_parts (top 1) && isB tab glo ⟨f_has_parts.ns, defScope (top 1), fun _ => true⟩ f_has_parts.body (defBody (top 1))) = true := by decide +kernel
theorem pa_0 : plainArgs f_has_parts (top 1) := fun _ _ _ _ _ _ us hl => match us, hl with | [_], _ => rfl
theorem ck_1 : (scB f_shown (top 2) && isB tab glo ⟨f_shown.ns, defScope (top 2), fun _ => true⟩ f_shown.body (defBody (top 2))) = true := by decide +kernel
theorem pa_1 : plainArgs f_shown (top 2) := fun _ _ _ _ _ _ us hl => match us, hl with | [_], _ => rfl
theorem ck_2 : (scB f__law_deck (top 4) && isB tab glo ⟨f__law_deck.ns, defScope (top 4), fun _ => true⟩ f__law_deck.body (defBody (top 4))) = true := by decide +kernel
theorem pa_2 : plainArgs f__law_deck (top 4) := fun _ _ _ _ _ _ us hl => match us, hl with | [_], _ => rfl
theorem ck_3 : (scB f__law_pick (top 5) && isB tab glo ⟨f__law_pick.ns, defScope (top 5), fun _ => true⟩ f__law_pick.body (defBody (top 5))) = true := by decide +kernel
theorem pa_3 : plainArgs f__law_pick (top 5) := fun _ _ _ _ _ _ us hl => match us, hl with | [_, _], _ => rfl
theorem ck_4 : (scB f__law_same (top 6) && isB tab glo ⟨f__law_same.ns, defScope (top 6), fun _ => true⟩ f__law_same.body (defBody (top 6))) = true := by decide +kernel
theorem pa_4 : plainArgs f__law_same (top 6) := fun _ _ _ _ _ _ us hl => match us, hl with | [_, _], _ => rfl
theorem ck_5 : (scB f__law_letters (top 7) && isB tab glo ⟨f__law_letters.ns, defScope (top 7), fun _ => true⟩ f__law_letters.body (defBody (top 7))) = true := by decide +kernel
theorem pa_5 : plainArgs f__law_letters (top 7) := fun _ _ _ _ _ _ us hl => match us, hl with | [_, _], _ => rfl
theorem ck_6 : (scB f__law_names (top 8) && isB tab glo ⟨f__law_names.ns, defScope (top 8), fun _ => true⟩ f__law_names.body (defBody (top 8))) = true := by decide +kernel
theorem pa_6 : plainArgs f__law_names (top 8) := fun _ _ _ _ _ _ us hl => match us, hl with | [_, _], _ => rfl
theorem ck_7 : (scB f__law_leaf (top 9) && isB tab glo ⟨f__law_leaf.ns, defScope (top 9), fun _ => true⟩ f__law_leaf.body (defBody (top 9))) = true := by decide +kernel
theorem pa_7 : plainArgs f__law_leaf (top 9) := fun _ _ _ _ _ _ us hl => match us, hl with | [_, _], _ => rfl
theorem ck_8 : (scB f__law_kind (top 10) && isB tab glo ⟨f__law_kind.ns, defScope (top 10), fun _ => true⟩ f__law_kind.body (defBody (top 10))) = true := by decide +kernel
theorem pa_8 : plainArgs f__law_kind (top 10) := fun _ _ _ _ _ _ us hl => match us, hl with | [_, _, _, _, _], _ => rfl
theorem ck_9 : (scB f__law_inner (top 11) && isB tab glo ⟨f__law_inner.ns, defScope (top 11), fun _ => true⟩ f__law_inner.body (defBody (top 11))) = true := by decide +kernel
theorem pa_9 : plainArgs f__law_inner (top 11) := fun _ _ _ _ _ _ us hl => match us, hl with | [_], _ => rfl
theorem ck_10 : (scB f__law_forms (top 12) && isB tab glo ⟨f__law_forms.ns, defScope (top 12), fun _ => true⟩ f__law_forms.body (defBody (top 12))) = true := by decide +kernel
theorem pa_10 : plainArgs f__law_forms (top 12) := fun _ _ _ _ _ _ us hl => match us, hl with | [_], _ => rfl
theorem ck_11 : (scB f__law_put (top 13) && isB tab glo ⟨f__law_put.ns, defScope (top 13), fun _ => true⟩ f__law_put.body (defBody (top 13))) = true := by decide +kernel
theorem pa_11 : plainArgs f__law_put (top 13) := fun _ _ _ _ _ _ us hl => match us, hl with | [_, _, _], _ => rfl
theorem ck_12 : (scB f__law_text (top 14) && isB tab glo ⟨f__law_text.ns, defScope (top 14), fun _ => true⟩ f__law_text.body (defBody (top 14))) = true := by decide +kernel
theorem pa_12 : plainArgs f__law_text (top 14) := fun _ _ _ _ _ _ us hl => match us, hl with | [_], _ => rfl
theorem ck_13 : (scB f__law_turned (top 15) && isB tab glo ⟨f__law_turned.ns, defScope (top 15), fun _ => true⟩ f__law_turned.body (defBody (top 15))) = true := by decide +kernel
theorem pa_13 : plainArgs f__law_turned (top 15) := fun _ _ _ _ _ _ us hl => match us, hl with | [_, _, _], _ => rfl
theorem ck_14 : (scB f_law (top 16) && isB tab glo ⟨f_law.ns, defScope (top 16), fun _ => true⟩ f_law.body (defBody (top 16))) = true := by decide +kernel
theorem pa_14 : plainArgs f_law (top 16) := fun _ _ _ _ _ _ us hl => match us, hl with | [_], _ => rfl
theorem hyp {K : PySem.W.Frag} (d0 : defIn K "has_parts" (top 1)) (d1 : defIn K "shown" (top 2)) (d2 : defIn K "_law_deck" (top 4)) (d3 : defIn K "_law_pick" (top 5)) (d4 : defIn K "_law_same" (top 6)) (d5 : defIn K "_law_letters" (top 7)) (d6 : defIn K "_law_names" (top 8)) (d7 : defIn K "_law_leaf" (top 9)) (d8 : defIn K "_law_kind" (top 10)) (d9 : defIn K "_law_inner" (top 11)) (d10 : defIn K "_law_forms" (top 12)) (d11 : defIn K "_law_put" (top 13)) (d12 : defIn K "_law_text" (top 14)) (d13 : defIn K "_law_turned" (top 15)) (d14 : defIn K "law" (top 16)) : ∀ (i : Nat) (fd : FnD), tab[i]? = some fd → ∃ st, defIn K fd.nm st ∧ plainArgs fd st ∧ scB fd st = true ∧ isB tab glo ⟨fd.ns, defScope st, fun _ => true⟩ fd.body (defBody st) = true
  | 0, _, rfl => ⟨top 1, d0, pa_0, (Bool.and_eq_true_iff.mp ck_0).1, (Bool.and_eq_true_iff.mp ck_0).2⟩
  | 1, _, rfl => ⟨top 2, d1, pa_1, (Bool.and_eq_true_iff.mp ck_1).1, (Bool.and_eq_true_iff.mp ck_1).2⟩
  | 2, _, rfl => ⟨top 4, d2, pa_2, (Bool.and_eq_true_iff.mp ck_2).1, (Bool.and_eq_true_iff.mp ck_2).2⟩
  | 3, _, rfl => ⟨top 5, d3, pa_3, (Bool.and_eq_true_iff.mp ck_3).1, (Bool.and_eq_true_iff.mp ck_3).2⟩
  | 4, _, rfl => ⟨top 6, d4, pa_4, (Bool.and_eq_true_iff.mp ck_4).1, (Bool.and_eq_true_iff.mp ck_4).2⟩
  | 5, _, rfl => ⟨top 7, d5, pa_5, (Bool.and_eq_true_iff.mp ck_5).1, (Bool.and_eq_true_iff.mp ck_5).2⟩
  | 6, _, rfl => ⟨top 8, d6, pa_6, (Bool.and_eq_true_iff.mp ck_6).1, (Bool.and_eq_true_iff.mp ck_6).2⟩
  | 7, _, rfl => ⟨top 9, d7, pa_7, (Bool.and_eq_true_iff.mp ck_7).1, (Bool.and_eq_true_iff.mp ck_7).2⟩
  | 8, _, rfl => ⟨top 10, d8, pa_8, (Bool.and_eq_true_iff.mp ck_8).1, (Bool.and_eq_true_iff.mp ck_8).2⟩
  | 9, _, rfl => ⟨top 11, d9, pa_9, (Bool.and_eq_true_iff.mp ck_9).1, (Bool.and_eq_true_iff.mp ck_9).2⟩
  | 10, _, rfl => ⟨top 12, d10, pa_10, (Bool.and_eq_true_iff.mp ck_10).1, (Bool.and_eq_true_iff.mp ck_10).2⟩
  | 11, _, rfl => ⟨top 13, d11, pa_11, (Bool.and_eq_true_iff.mp ck_11).1, (Bool.and_eq_true_iff.mp ck_11).2⟩
  | 12, _, rfl => ⟨top 14, d12, pa_12, (Bool.and_eq_true_iff.mp ck_12).1, (Bool.and_eq_true_iff.mp ck_12).2⟩
  | 13, _, rfl => ⟨top 15, d13, pa_13, (Bool.and_eq_true_iff.mp ck_13).1, (Bool.and_eq_true_iff.mp ck_13).2⟩
  | 14, _, rfl => ⟨top 16, d14, pa_14, (Bool.and_eq_true_iff.mp ck_14).1, (Bool.and_eq_true_iff.mp ck_14).2⟩
  | _ + 15, _, h => nomatch h
theorem glob {K : PySem.W.Frag} {h : Heap} {mg : Str → Option Value} (X : K.In h) (Gn : h.Ns mainGlobals mg) (z0 : PySem.W.nsIn K mainGlobals "len" = some none) (z1 : PySem.W.nsIn K mainGlobals "int" = some none) (z2 : PySem.W.nsIn K mainGlobals "tuple" = some none) (z3 : PySem.W.nsIn K mainGlobals "list" = some none) (z4 : PySem.W.nsIn K mainGlobals "sum" = some none) (z5 : PySem.W.nsIn K mainGlobals "all" = some none) (z6 : PySem.W.nsIn K mainGlobals "any" = some none) (z7 : PySem.W.nsIn K mainGlobals "max" = some none) (z8 : PySem.W.nsIn K mainGlobals "min" = some none) (z9 : PySem.W.nsIn K mainGlobals "isinstance" = some none) (z10 : PySem.W.nsIn K mainGlobals "range" = some none) (z11 : PySem.W.nsIn K mainGlobals "zip" = some none) (z12 : PySem.W.nsIn K mainGlobals "bool" = some none) (z13 : PySem.W.nsIn K mainGlobals "str" = some none) (z14 : PySem.W.nsIn K mainGlobals "sorted" = some none) : Glo K mg glo := by
  refine ⟨fun x hx => ?_, fun i x d e => ?_⟩
  · simp only [bnames, List.mem_cons, List.not_mem_nil, or_false] at hx
    rcases hx with rfl | rfl | rfl | rfl | rfl | rfl | rfl | rfl | rfl | rfl | rfl | rfl | rfl | rfl | rfl
    · exact PySem.W.mg_none_of X Gn z0
    · exact PySem.W.mg_none_of X Gn z1
    · exact PySem.W.mg_none_of X Gn z2
    · exact PySem.W.mg_none_of X Gn z3
    · exact PySem.W.mg_none_of X Gn z4
    · exact PySem.W.mg_none_of X Gn z5
    · exact PySem.W.mg_none_of X Gn z6
    · exact PySem.W.mg_none_of X Gn z7
    · exact PySem.W.mg_none_of X Gn z8
    · exact PySem.W.mg_none_of X Gn z9
    · exact PySem.W.mg_none_of X Gn z10
    · exact PySem.W.mg_none_of X Gn z11
    · exact PySem.W.mg_none_of X Gn z12
    · exact PySem.W.mg_none_of X Gn z13
    · exact PySem.W.mg_none_of X Gn z14
  · match i, e with
    | _ + 0, e => exact nomatch e
end Lw
open PySem PySem.W PyProof.Rows
set_option maxRecDepth 100000 in
set_option maxHeartbeats 0 in
theorem PySem.Challenge.cw_packedforms_k02_kinds_shown_holds : PySem.Challenge.rw_packedforms_k02_kinds_shown.Holds := by
  w_on; o_law; k_head; (case hw => w_witness2)
  k_fill
  refine Pv.law_walk (l := PySem.Challenge.rw_packedforms_k02_kinds_shown) (T := Lw.tab) (G := Lw.glo) (N := 150) (li := 14) (fd := Lw.f_law) rfl rfl ⟨rfl, by decide, by decide⟩ rfl rfl rfl (fun w h Y => PySem.W.kIn_of Y) ?F Lw.main
  case F =>
    intro w mg h KX G
    refine' ⟨Pv.tab_of KX G (Lw.hyp ?dq0 ?dq1 ?dq2 ?dq3 ?dq4 ?dq5 ?dq6 ?dq7 ?dq8 ?dq9 ?dq10 ?dq11 ?dq12 ?dq13 ?dq14), Lw.glob KX G ?zq0 ?zq1 ?zq2 ?zq3 ?zq4 ?zq5 ?zq6 ?zq7 ?zq8 ?zq9 ?zq10 ?zq11 ?zq12 ?zq13 ?zq14 ⟩
    case dq0 => refine' Pv.defIn_mk ?a ?l ?c ?k; (case a => k_is); (case l => k_is); (case c => k_is); (case k => k_is)
    case dq1 => refine' Pv.defIn_mk ?a ?l ?c ?k; (case a => k_is); (case l => k_is); (case c => k_is); (case k => k_is)
    case dq2 => refine' Pv.defIn_mk ?a ?l ?c ?k; (case a => k_is); (case l => k_is); (case c => k_is); (case k => k_is)
    case dq3 => refine' Pv.defIn_mk ?a ?l ?c ?k; (case a => k_is); (case l => k_is); (case c => k_is); (case k => k_is)
    case dq4 => refine' Pv.defIn_mk ?a ?l ?c ?k; (case a => k_is); (case l => k_is); (case c => k_is); (case k => k_is)
    case dq5 => refine' Pv.defIn_mk ?a ?l ?c ?k; (case a => k_is); (case l => k_is); (case c => k_is); (case k => k_is)
    case dq6 => refine' Pv.defIn_mk ?a ?l ?c ?k; (case a => k_is); (case l => k_is); (case c => k_is); (case k => k_is)
    case dq7 => refine' Pv.defIn_mk ?a ?l ?c ?k; (case a => k_is); (case l => k_is); (case c => k_is); (case k => k_is)
    case dq8 => refine' Pv.defIn_mk ?a ?l ?c ?k; (case a => k_is); (case l => k_is); (case c => k_is); (case k => k_is)
    case dq9 => refine' Pv.defIn_mk ?a ?l ?c ?k; (case a => k_is); (case l => k_is); (case c => k_is); (case k => k_is)
    case dq10 => refine' Pv.defIn_mk ?a ?l ?c ?k; (case a => k_is); (case l => k_is); (case c => k_is); (case k => k_is)
    case dq11 => refine' Pv.defIn_mk ?a ?l ?c ?k; (case a => k_is); (case l => k_is); (case c => k_is); (case k => k_is)
    case dq12 => refine' Pv.defIn_mk ?a ?l ?c ?k; (case a => k_is); (case l => k_is); (case c => k_is); (case k => k_is)
    case dq13 => refine' Pv.defIn_mk ?a ?l ?c ?k; (case a => k_is); (case l => k_is); (case c => k_is); (case k => k_is)
    case dq14 => refine' Pv.defIn_mk ?a ?l ?c ?k; (case a => k_is); (case l => k_is); (case c => k_is); (case k => k_is)
    case zq0 => k_is
    case zq1 => k_is
    case zq2 => k_is
    case zq3 => k_is
    case zq4 => k_is
    case zq5 => k_is
    case zq6 => k_is
    case zq7 => k_is
    case zq8 => k_is
    case zq9 => k_is
    case zq10 => k_is
    case zq11 => k_is
    case zq12 => k_is
    case zq13 => k_is
    case zq14 => k_is

