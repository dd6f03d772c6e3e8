import PyProof.Rows.All
import Wide.All
import OpenK.AllK
import Wide.FinOn
import HandS.ForMost
import HandS.Evl
import HandS.Zip
import HandS.IsInst
import HandS.Conv
import HandS.TupAny
import HandS.Wide
import HandS.NoneIn
import HandS.TupMul
import HandS.SortInts
import KE.GoesEnumKw
import HandS.Style
import HandS.FStr
import PyProof.Rows.StrRev
import PySem.Challenge.RW_packedforms_k01_alike_or_not
set_option Elab.async false
set_option maxRecDepth 100000
set_option linter.all false
set_option autoImplicit false
set_option maxHeartbeats 4000000
namespace Pv
open PySem

/-! ## data -/
inductive D where
  | non | bl (b : Bool) | int (i : Int) | str (x : Str) | tup (xs : List D) | lst (xs : List D) | frz (xs : List D) | ref (l : Nat)
  deriving Inhabited
inductive MO where
  | lst (xs : List D)
  deriving Inhabited
abbrev M := List MO
abbrev Env := List (Option D)

mutual
def beqD : D → D → Bool
  | .non, .non => true
  | .bl a, .bl b => a == b
  | .int a, .int b => decide (a = b)
  | .str a, .str b => decide (a = b)
  | .tup a, .tup b => beqDs a b
  | .lst a, .lst b => beqDs a b
  | .frz a, .frz b => beqDs a b
  | .ref a, .ref b => decide (a = b)
  | _, _ => false
def beqDs : List D → List D → Bool
  | [], [] => true
  | a :: r, b :: q => beqD a b && beqDs r q
  | _, _ => false
end
mutual
theorem beqD_eq : ∀ {a b : D}, beqD a b = true ↔ a = b
  | .non, b => by cases b <;> simp [beqD]
  | .bl _, b => by cases b <;> simp [beqD]
  | .int _, b => by cases b <;> simp [beqD]
  | .str _, b => by cases b <;> simp [beqD]
  | .tup x, b => by cases b <;> simp [beqD, beqDs_eq (a := x)]
  | .lst x, b => by cases b <;> simp [beqD, beqDs_eq (a := x)]
  | .frz x, b => by cases b <;> simp [beqD, beqDs_eq (a := x)]
  | .ref _, b => by cases b <;> simp [beqD]
theorem beqDs_eq : ∀ {a b : List D}, beqDs a b = true ↔ a = b
  | [], b => by cases b <;> simp [beqDs]
  | x :: r, b => by cases b <;> simp [beqDs, beqD_eq (a := x), beqDs_eq (a := r)]
end
instance : DecidableEq D := fun a b => decidable_of_iff (beqD a b = true) beqD_eq
instance : DecidableEq MO := fun a b => match a, b with
  | .lst x, .lst y => decidable_of_iff (x = y) (by simp)

/-! no reference to a mutable thing (nor the script) within -/
mutual
def pure_ : D → Bool
  | .tup xs => pures xs
  | .lst xs => pures xs
  | .frz _ => false
  | .ref _ => false
  | _ => true
def pures : List D → Bool
  | [] => true
  | x :: r => pure_ x && pures r
end
mutual
def toP : D → PyData
  | .non => .none
  | .bl b => .bool b
  | .int i => .int i
  | .str x => .str x
  | .tup xs => .tuple (toPs xs)
  | .lst xs => .list (toPs xs)
  | .frz _ => .none
  | .ref _ => .none
def toPs : List D → List PyData
  | [] => []
  | x :: r => toP x :: toPs r
end

def lim : Nat := 16777216
/-- what is read at a value -/
def deref (m : M) : D → D
  | .ref l => match m[l]? with
    | some (.lst xs) => .lst xs
    | none => .ref l
  | d => d

/-! ## the form of the terms -/
inductive BOp where
  | add | sub | mul | fdiv | mod | pow
  deriving DecidableEq
inductive COp where
  | eq | ne | lt | le | gt | ge | isin | notin
  deriving DecidableEq
inductive BI where
  | len | int | tuple | list | sum | all | any | max2 | min2 | sorted | min1 | max1 | str
  deriving DecidableEq
inductive Ty where
  | int | bool | str | tuple
  deriving DecidableEq
mutual
inductive Tg where
  | nm (i : Nat) | tp (ts : Tgs) | up (ts : Tgs)
inductive Tgs where
  | nil | cons (t : Tg) (ts : Tgs)
end
mutual
inductive E where
  | nop
  | var (i : Nat)
  | con (d : D)
  | glob (k : Nat)
  | bin (op : BOp) (a b : E)
  | neg (a : E)
  | cmp (op : COp) (a b : E)
  | chain (o p : COp) (a b c : E)
  | isN (a : E)
  | notN (a : E)
  | and_ (a b : E)
  | and1 (a : E)
  | or_ (a b : E)
  | or1 (a : E)
  | not_ (a : E)
  | ife (c a b : E)
  | call (f : Nat) (as : Es)
  | callP (f : Nat) (as : Es)
  | bi (b : BI) (as : Es)
  | isi (a : E) (t : Ty)
  | listRg (a : E)
  | ix (a b : E)
  | sl (a lo hi : E)
  | tup (as : Es)
  | lst (as : Es)
  | comp (own : List (Str × Nat)) (t : Tg) (it : It) (e : E)
  | compIf (own : List (Str × Nat)) (t : Tg) (it : It) (c e : E)
  | box (a : E)
  | pop (a : E)
  | popAt (a b : E)
  | append (a b : E)
  | rev (a : E)
  | join (a b : E)
  | fmt (a : E)
  | fstr (as : Es)
inductive Es where
  | nil | cons (e : E) (es : Es)
inductive It where
  | seq (e : E) | rng1 (e : E) | rng2 (a b : E) | zip (a b : E) | zipS (a b : E)
end
mutual
inductive S where
  | asg (t : Tg) (e : E)
  | setix (o i e : E)
  | aug (i : Nat) (op : BOp) (e : E)
  | ex (e : E)
  | ife (c : E) (a b : Ss)
  | for_ (t : Tg) (it : It) (b : Ss)
  | while_ (c : E) (b : Ss)
  | ret (e : E)
  | brk | cont
inductive Ss where
  | nil | cons (s : S) (ss : Ss)
end

/-! ## operators -/
def small (i : Int) : Bool := decide (-(2 ^ 64) < i) && decide (i < 2 ^ 64)
def mulOk (i j : Int) : Bool := small i || small j || decide (i.natAbs.log2 + j.natAbs.log2 < 1000000)
def divOk (j : Int) : Bool := decide (0 < j) && decide (j.natAbs.log2 < 9000)
def addD (m : M) : D → D → Option D
  | .int i, .int j => some (.int (i + j))
  | .str x, .str y => if x.length + y.length ≤ lim then some (.str (x ++ y)) else none
  | .tup x, .tup y => if x.length + y.length ≤ lim then some (.tup (x ++ y)) else none
  | x, y => match deref m x, deref m y with
    | .lst a, .lst b => if a.length + b.length ≤ lim then some (.lst (a ++ b)) else none
    | _, _ => none
def mulD (m : M) : D → D → Option D
  | .int i, .int j => if mulOk i j then some (.int (i * j)) else none
  | x, .int k => match deref m x with
    | .lst a => if small k && decide (-(2 ^ 63) ≤ k) && decide (k < 2 ^ 63) && decide (a.length * k.toNat ≤ lim) then some (.lst (List.replicate k.toNat a).flatten) else none
    | .tup a => if decide (-1000 ≤ k) && decide (k ≤ 1000) && decide (a.length ≤ 1000) then some (.tup (List.replicate k.toNat a).flatten) else none
    | _ => none
  | _, _ => none
def subD : D → D → Option D
  | .int i, .int j => some (.int (i - j))
  | _, _ => none
def fdivD : D → D → Option D
  | .int i, .int j => if divOk j then some (.int (i / j)) else none
  | _, _ => none
def modD : D → D → Option D
  | .int i, .int j => if 0 < j then some (.int (i % j)) else none
  | _, _ => none
def powOk (i j : Int) : Bool := decide (0 ≤ j) && decide (j ≤ 1000000) && decide (i.natAbs < 2 ^ 64)
def powOk2 (i j : Int) : Bool := decide (0 ≤ j) && decide (j ≤ 100) && decide (i.natAbs.log2 < 5000)
def powD : D → D → Option D
  | .int i, .int j => if powOk i j then some (.int (i ^ j.toNat)) else if powOk2 i j then some (.int (i ^ j.toNat)) else none
  | _, _ => none
def bopD (m : M) : BOp → D → D → Option D
  | .add => addD m
  | .sub => subD
  | .mul => mulD m
  | .fdiv => fdivD
  | .mod => modD
  | .pow => powD
def eqOk (x y : D) : Bool := pure_ x && pure_ y && (toP x).canLay0 && (toP y).canLay0 && decide (min (toP x).depth (toP y).depth ≤ 64)
def eqD (m : M) : D → D → Option Bool
  | .int i, .int j => some (decide (i = j))
  | .str x, .str y => some (decide (x = y))
  | .bl x, .bl y => some (x == y)
  | x, y => if eqOk (deref m x) (deref m y) then some (PyData.eqv (toP (deref m x)) (toP (deref m y))) else none
def flatD : D → Bool
  | .non => true | .bl _ => true | .int _ => true | .str _ => true | _ => false
def eqF : D → D → Bool
  | .non, .non => true
  | .bl a, .bl b => a == b
  | .bl a, .int b => (if a then 1 else 0) == b
  | .int a, .bl b => a == (if b then 1 else 0)
  | .int a, .int b => a == b
  | .str a, .str b => a == b
  | _, _ => false
def seqOf (m : M) (d : D) : Option (List D) := match deref m d with
  | .tup xs => some xs
  | .lst xs => some xs
  | _ => none
def inD (m : M) (x y : D) : Option Bool := match seqOf m y with
  | some ys => if flatD x && ys.all flatD then some (ys.any fun z => eqF z x) else none
  | none => none
def ordD (f : Int → Int → Bool) : D → D → Option Bool
  | .int i, .int j => some (f i j)
  | _, _ => none
def cmpD (m : M) : COp → D → D → Option Bool
  | .eq => eqD m
  | .ne => fun x y => (eqD m x y).map (!·)
  | .lt => ordD fun i j => decide (i < j)
  | .le => ordD fun i j => decide (i ≤ j)
  | .gt => ordD fun i j => decide (j < i)
  | .ge => ordD fun i j => decide (j ≤ i)
  | .isin => inD m
  | .notin => fun x y => (inD m x y).map (!·)
def intsD : List D → Option (List Int)
  | [] => some []
  | .int i :: r => (intsD r).map (i :: ·)
  | _ => none
def bools : List D → Option (List Bool)
  | [] => some []
  | .bl i :: r => (bools r).map (i :: ·)
  | _ => none
def lenD (m : M) (d : D) : Option Int := match deref m d with
  | .tup xs => some xs.length
  | .lst xs => some xs.length
  | .frz xs => some xs.length
  | .str x => if x.length ≤ lim then some x.length else none
  | _ => none
def leastD : List Int → Option Int
  | [] => none
  | n :: r => some (r.foldl (fun a b => if b < a then b else a) n)
def mostD : List Int → Option Int
  | [] => none
  | n :: r => some (r.foldl (fun a b => if a < b then b else a) n)
def sortD (ns : List Int) : List Int := ns.mergeSort (fun a b => decide (a ≤ b))
def biD (m : M) : BI → List D → Option D
  | .len, [x] => (lenD m x).map .int
  | .int, [.int i] => some (.int i)
  | .int, [.bl b] => some (.int (if b then 1 else 0))
  | .tuple, [x] => (seqOf m x).map .tup
  | .list, [.str z] => if z.length ≤ lim then some (.lst (z.cps.toList.map fun c => .str ⟨#[c]⟩)) else none
  | .list, [x] => (seqOf m x).map .lst
  | .sum, [x] => match deref m x with
    | .lst xs => (intsD xs).map fun ns => .int ns.sum
    | _ => none
  | .all, [x] => match deref m x with
    | .lst xs => (bools xs).map fun bs => .bl (bs.all id)
    | _ => none
  | .any, [x] => match deref m x with
    | .lst xs => (bools xs).map fun bs => .bl (bs.any id)
    | _ => none
  | .sorted, [x] => (seqOf m x).bind fun xs => (intsD xs).map fun ns => .lst ((sortD ns).map .int)
  | .min1, [x] => match deref m x with
    | .lst xs => (intsD xs).bind fun ns => (leastD ns).map .int
    | _ => none
  | .max1, [x] => match deref m x with
    | .lst xs => (intsD xs).bind fun ns => (mostD ns).map .int
    | _ => none
  | .max2, [.int i, .int j] => some (.int (if j > i then j else i))
  | .min2, [.int i, .int j] => some (.int (if j < i then j else i))
  | .str, [.int i] => if i.natAbs.log2 < 1920 then some (.str (toString i)) else none
  | _, _ => none
def isiD : D → Ty → Option Bool
  | .non, _ => some false
  | .bl _, .int => some true
  | .bl _, .bool => some true
  | .bl _, _ => some false
  | .int _, .int => some true
  | .int _, _ => some false
  | .str _, .str => some true
  | .str _, _ => some false
  | .tup _, .tuple => some true
  | .tup _, _ => some false
  | .lst _, _ => some false
  | _, _ => none
/-- the place that an index names -/
def ixAt (n : Nat) (i : Int) : Option Nat := if 0 ≤ i then (if i < n then some i.toNat else none) else if -(n : Int) ≤ i then some (i + n).toNat else none
def atD (xs : List D) (i : Int) : Option D := (ixAt xs.length i).bind fun j => xs[j]?
def ixD (m : M) (x y : D) : Option D := match y with
  | .int i => match deref m x with
    | .tup xs => atD xs i
    | .lst xs => atD xs i
    | .frz xs => atD xs i
    | .str z => if z.length ≤ lim then ((ixAt z.cps.toList.length i).bind fun j => z.cps.toList[j]?).map fun c => .str ⟨#[c]⟩ else none
    | _ => none
  | _ => none
def sIx (n d : Nat) : Option Int → Nat
  | none => d
  | some v => if v < 0 then (v + n).toNat else min v.toNat n
def cutD (xs : List D) (lo hi : Option Int) : List D := (xs.drop (sIx xs.length 0 lo)).take (sIx xs.length xs.length hi - sIx xs.length 0 lo)
def cutT (z : Str) (lo hi : Option Int) : Str := ⟨((z.cps.toList.drop (sIx z.length 0 lo)).take (sIx z.length z.length hi - sIx z.length 0 lo)).toArray⟩
def slD (m : M) (x : D) (lo hi : Option Int) : Option D := match deref m x with
  | .tup xs => some (.tup (cutD xs lo hi))
  | .lst xs => some (.lst (cutD xs lo hi))
  | .frz xs => some (.lst (cutD xs lo hi))
  | .str z => if z.length ≤ lim then some (.str (cutT z lo hi)) else none
  | _ => none
def revT (z : Str) : Str := ⟨z.cps.toList.reverse.toArray⟩
def revD (m : M) (x : D) : Option D := match deref m x with
  | .lst xs => some (.lst xs.reverse)
  | .str z => if z.length ≤ lim then some (.str (revT z)) else none
  | _ => none
def strsD : List D → Option (List Str)
  | [] => some []
  | .str i :: r => (strsD r).map (i :: ·)
  | _ => none
def joinD (m : M) : D → D → Option D
  | .str a, y => (seqOf m y).bind fun ys => (strsD ys).bind fun ss => if (ss.map (·.length)).sum + ss.length * a.length ≤ lim then some (.str (Str.join a ss)) else none
  | _, _ => none
def txtD : D → Option D
  | .str y => if y.length ≤ lim then some (.str y) else none
  | .int i => if i.natAbs.log2 < 1920 then some (.str (toString i)) else none
  | _ => none
def gluD : Str → List D → Option Str
  | acc, [] => some acc
  | acc, .str y :: r => if (acc ++ y).length ≤ lim then gluD (acc ++ y) r else none
  | _, _ => none

/-! ## the evaluator -/
mutual
def bindTg (m : M) : Tg → D → Env → Option Env
  | .nm i, d, env => some (env.set i (some d))
  | .tp ts, .tup ds, env => bindTgs m ts ds env
  | .tp _, _, _ => none
  | .up ts, d, env => match deref m d with
    | .lst ds => bindTgs m ts ds env
    | _ => none
def bindTgs (m : M) : Tgs → List D → Env → Option Env
  | .nil, [], env => some env
  | .cons t ts, d :: ds, env => (bindTg m t d env).bind fun e => bindTgs m ts ds e
  | _, _, _ => none
end
def wipeE (env : Env) : List Nat → Env
  | [] => env
  | v :: vs => (wipeE env vs).set v none
abbrev Fn := Nat → List D → M → Option (D × M)
def compL (t : Tg) (env : Env) (te : Env → M → Option (D × M)) : List D → M → Option (List D × M)
  | [], m => some ([], m)
  | d :: ds, m => (bindTg m t d env).bind fun e => (te e m).bind fun p => (compL t env te ds p.2).bind fun q => some (p.1 :: q.1, q.2)
def compLI (t : Tg) (env : Env) (tc te : Env → M → Option (D × M)) : List D → M → Option (List D × M)
  | [], m => some ([], m)
  | d :: ds, m => (bindTg m t d env).bind fun e => (tc e m).bind fun c => match c.1 with
    | .bl true => (te e c.2).bind fun p => (compLI t env tc te ds p.2).bind fun q => some (p.1 :: q.1, q.2)
    | .bl false => compLI t env tc te ds c.2
    | _ => none
def rangeD (lo : Int) (n : Nat) : List D := (List.range n).map fun (i : Nat) => .int (lo + (i : Int))
def rgOk (i : Int) : Bool := decide (-(2 ^ 62) ≤ i) && decide (i < 2 ^ 62)
def zipD (x y : D) : Option (List D) := match x, y with
  | .tup xs, .tup ys => some (List.zipWith (fun a b => .tup [a, b]) xs ys)
  | .lst xs, .lst ys => some (List.zipWith (fun a b => .tup [a, b]) xs ys)
  | .lst xs, .tup ys => if xs.length = ys.length then some (List.zipWith (fun a b => .tup [a, b]) xs ys) else none
  | .tup xs, .lst ys => if xs.length = ys.length then some (List.zipWith (fun a b => .tup [a, b]) xs ys) else none
  | _, _ => none
def rowD : D → Option (Bool × List D)
  | .tup xs => some (false, xs)
  | .lst xs => some (true, xs)
  | _ => none
def zipSD (x y : D) : Option (List D) := (rowD x).bind fun p => (rowD y).bind fun q => if p.2.length = q.2.length then some (List.zipWith (fun a b => .tup [a, b]) p.2 q.2) else none
def isNop : E → Bool
  | .nop => true
  | _ => false
def partO (f : Env → M → Option (D × M)) (nop : Bool) (env : Env) (m : M) : Option (Option Int × M) :=
  if nop then some (none, m) else (f env m).bind fun p => match p.1 with
    | .int i => some (some i, p.2)
    | _ => none
section
variable (F : Fn) (G : List D)
mutual
def evE : E → Env → M → Option (D × M)
  | .nop, _, _ => none
  | .var i, env, m => match env[i]? with
    | some (some d) => some (d, m)
    | _ => none
  | .con d, _, m => some (d, m)
  | .glob k, _, m => (G[k]?).map fun d => (d, m)
  | .bin op a b, env, m => (evE a env m).bind fun p => (evE b env p.2).bind fun q => (bopD q.2 op p.1 q.1).map fun d => (d, q.2)
  | .neg a, env, m => (evE a env m).bind fun p => match p.1 with
    | .int i => some (.int (-i), p.2)
    | _ => none
  | .cmp op a b, env, m => (evE a env m).bind fun p => (evE b env p.2).bind fun q => (cmpD q.2 op p.1 q.1).map fun d => (.bl d, q.2)
  | .chain o p a b c, env, m => (evE a env m).bind fun x => (evE b env x.2).bind fun y => (cmpD y.2 o x.1 y.1).bind fun k =>
      if k then (evE c env y.2).bind fun z => (cmpD z.2 p y.1 z.1).map fun d => (.bl d, z.2) else some (.bl false, y.2)
  | .isN a, env, m => (evE a env m).map fun p => (.bl (decide (p.1 = .non)), p.2)
  | .notN a, env, m => (evE a env m).map fun p => (.bl (!decide (p.1 = .non)), p.2)
  | .and_ a b, env, m => (evE a env m).bind fun p => match p.1 with
    | .bl true => evE b env p.2
    | .bl false => some (.bl false, p.2)
    | _ => none
  | .and1 a, env, m => evE a env m
  | .or_ a b, env, m => (evE a env m).bind fun p => match p.1 with
    | .bl true => some (.bl true, p.2)
    | .bl false => evE b env p.2
    | _ => none
  | .or1 a, env, m => evE a env m
  | .not_ a, env, m => (evE a env m).bind fun p => match p.1 with
    | .bl k => some (.bl (!k), p.2)
    | _ => none
  | .ife c a b, env, m => (evE c env m).bind fun p => match p.1 with
    | .bl true => evE a env p.2
    | .bl false => evE b env p.2
    | _ => none
  | .call f as, env, m => (evA as env m).bind fun p => F f p.1 p.2
  | .callP f as, env, m => (evA as env m).bind fun p => (F f p.1 p.2).bind fun q => if q.2.take p.2.length = p.2 ∧ pure_ q.1 = true then some (q.1, p.2) else none
  | .bi b as, env, m => (evA as env m).bind fun p => (biD p.2 b p.1).map fun d => (d, p.2)
  | .isi a t, env, m => (evE a env m).bind fun p => (isiD p.1 t).map fun k => (.bl k, p.2)
  | .listRg a, env, m => (evE a env m).bind fun p => match p.1 with
    | .int n => if rgOk n && decide (n.toNat ≤ lim) then some (.lst (rangeD 0 n.toNat), p.2) else none
    | _ => none
  | .ix a b, env, m => (evE a env m).bind fun p => (evE b env p.2).bind fun q => (ixD q.2 p.1 q.1).map fun d => (d, q.2)
  | .sl a lo hi, env, m => (evE a env m).bind fun p => (partO (fun env m => evE lo env m) (isNop lo) env p.2).bind fun l => (partO (fun env m => evE hi env m) (isNop hi) env l.2).bind fun h => (slD h.2 p.1 l.1 h.1).map fun d => (d, h.2)
  | .tup as, env, m => (evA as env m).bind fun p => if p.1.length ≤ lim then some (.tup p.1, p.2) else none
  | .lst as, env, m => (evA as env m).bind fun p => if p.1.length ≤ lim then some (.lst p.1, p.2) else none
  | .comp own t it e, env, m => (evI it env m).bind fun p => if p.1.length ≤ lim then
      (compL t (wipeE env (own.map (·.2))) (fun env m => evE e env m) p.1 p.2).map fun q => (.lst q.1, q.2) else none
  | .compIf own t it c e, env, m => (evI it env m).bind fun p => if p.1.length ≤ lim then
      (compLI t (wipeE env (own.map (·.2))) (fun env m => evE c env m) (fun env m => evE e env m) p.1 p.2).map fun q => (.lst q.1, q.2) else none
  | .box a, env, m => (evE a env m).bind fun p => match p.1 with
    | .lst xs => some (.ref p.2.length, p.2 ++ [.lst xs])
    | _ => none
  | .pop a, env, m => (evE a env m).bind fun p => match p.1 with
    | .ref l => match p.2[l]? with
      | some (.lst xs) => match xs[xs.length - 1]? with
        | some y => some (y, p.2.set l (.lst xs.dropLast))
        | none => none
      | none => none
    | _ => none
  | .popAt a b, env, m => (evE a env m).bind fun p => (evE b env p.2).bind fun q => match p.1, q.1 with
    | .ref l, .int i => match q.2[l]? with
      | some (.lst xs) => match ixAt xs.length i with
        | some k => match xs[k]? with
          | some y => if decide (-(2 ^ 63) ≤ i) && decide (i < 2 ^ 63) then some (y, q.2.set l (.lst (xs.eraseIdx k))) else none
          | none => none
        | none => none
      | none => none
    | _, _ => none
  | .append a b, env, m => (evE a env m).bind fun p => (evE b env p.2).bind fun q => match p.1 with
    | .ref l => match q.2[l]? with
      | some (.lst xs) => if xs.length < lim then some (.non, q.2.set l (.lst (xs ++ [q.1]))) else none
      | none => none
    | _ => none
  | .rev a, env, m => (evE a env m).bind fun p => (revD p.2 p.1).map fun d => (d, p.2)
  | .join a b, env, m => (evE a env m).bind fun p => (evE b env p.2).bind fun q => (joinD q.2 p.1 q.1).map fun d => (d, q.2)
  | .fmt a, env, m => (evE a env m).bind fun p => (txtD p.1).map fun d => (d, p.2)
  | .fstr as, env, m => (evA as env m).bind fun p => (gluD Str.empty p.1).map fun d => (.str d, p.2)
def evA : Es → Env → M → Option (List D × M)
  | .nil, _, m => some ([], m)
  | .cons e es, env, m => (evE e env m).bind fun p => (evA es env p.2).bind fun q => some (p.1 :: q.1, q.2)
def evI : It → Env → M → Option (List D × M)
  | .seq e, env, m => (evE e env m).bind fun p => match p.1 with
    | .tup xs => some (xs, p.2)
    | .lst xs => some (xs, p.2)
    | _ => none
  | .rng1 e, env, m => (evE e env m).bind fun p => match p.1 with
    | .int n => if rgOk n then some (rangeD 0 n.toNat, p.2) else none
    | _ => none
  | .rng2 a b, env, m => (evE a env m).bind fun p => (evE b env p.2).bind fun q => match p.1, q.1 with
    | .int i, .int j => if rgOk i && rgOk j then some (rangeD i (j - i).toNat, q.2) else none
    | _, _ => none
  | .zip a b, env, m => (evE a env m).bind fun p => (evE b env p.2).bind fun q => (zipD p.1 q.1).map fun ds => (ds, q.2)
  | .zipS a b, env, m => (evE a env m).bind fun p => (evE b env p.2).bind fun q => (zipSD p.1 q.1).map fun ds => (ds, q.2)
end
end
inductive Fl where
  | nx | rt (d : D) | bk | ct
abbrev R := Option (Fl × Env × M)
def forL (t : Tg) (tb : Env → M → R) : List D → Env → M → R
  | [], env, m => some (.nx, env, m)
  | d :: ds, env, m => (bindTg m t d env).bind fun e => (tb e m).bind fun r => match r.1 with
    | .nx => forL t tb ds r.2.1 r.2.2
    | .ct => forL t tb ds r.2.1 r.2.2
    | .bk => some (.nx, r.2.1, r.2.2)
    | .rt d => some (.rt d, r.2.1, r.2.2)
def whileL (tc : Env → M → Option (D × M)) (tb : Env → M → R) : Nat → Env → M → R
  | 0, _, _ => none
  | n + 1, env, m => (tc env m).bind fun c => match c.1 with
    | .bl true => (tb env c.2).bind fun r => match r.1 with
      | .nx => whileL tc tb n r.2.1 r.2.2
      | .ct => whileL tc tb n r.2.1 r.2.2
      | .bk => some (.nx, r.2.1, r.2.2)
      | .rt d => some (.rt d, r.2.1, r.2.2)
    | .bl false => some (.nx, env, c.2)
    | _ => none
/-- how many turns a while may take -/
def turns : Nat := 1000000
section
variable (F : Fn) (G : List D)
mutual
def evS : S → Env → M → R
  | .asg t e, env, m => (evE F G e env m).bind fun p => (bindTg p.2 t p.1 env).map fun e => (.nx, e, p.2)
  | .setix o i e, env, m => (evE F G e env m).bind fun p => (evE F G o env p.2).bind fun q => (evE F G i env q.2).bind fun r => match q.1, r.1 with
    | .ref l, .int k => match r.2[l]? with
      | some (.lst xs) => match ixAt xs.length k with
        | some j => some (.nx, env, r.2.set l (.lst (xs.set j p.1)))
        | none => none
      | none => none
    | _, _ => none
  | .aug i op e, env, m => match env[i]? with
    | some (some (.int a)) => (evE F G e env m).bind fun p => match p.1 with
      | .int b => match op with
        | .add => some (.nx, env.set i (some (.int (a + b))), p.2)
        | .sub => some (.nx, env.set i (some (.int (a - b))), p.2)
        | _ => none
      | _ => none
    | _ => none
  | .ex e, env, m => (evE F G e env m).map fun p => (.nx, env, p.2)
  | .ife c a b, env, m => (evE F G c env m).bind fun p => match p.1 with
    | .bl true => evB a env p.2
    | .bl false => evB b env p.2
    | _ => none
  | .for_ t it b, env, m => (evI F G it env m).bind fun p => forL t (fun env m => evB b env m) p.1 env p.2
  | .while_ c b, env, m => whileL (fun env m => evE F G c env m) (fun env m => evB b env m) turns env m
  | .ret e, env, m => (evE F G e env m).map fun p => (.rt p.1, env, p.2)
  | .brk, env, m => some (.bk, env, m)
  | .cont, env, m => some (.ct, env, m)
def evB : Ss → Env → M → R
  | .nil, env, m => some (.nx, env, m)
  | .cons s ss, env, m => (evS s env m).bind fun r => match r.1 with
    | .nx => evB ss r.2.1 r.2.2
    | _ => some r
end
end
structure FnD where
  nm : Str
  ps : List Str
  ns : List Str
  body : Ss
def startE (n : Nat) (ds : List D) : Env := ds.map some ++ List.replicate (n - ds.length) none
def runBody (F : Fn) (G : List D) (fd : FnD) (ds : List D) (m : M) : Option (D × M) :=
  if ds.length = fd.ps.length then (evB F G fd.body (startE fd.ns.length ds) m).bind fun r => match r.1 with
    | .rt d => some (d, r.2.2)
    | .nx => some (.non, r.2.2)
    | _ => none
  else none
def run (T : List FnD) (G : List D) : Nat → Fn
  | 0, _, _, _ => none
  | n + 1, f, ds, m => match T[f]? with
    | some fd => runBody (run T G n) G fd ds m
    | none => none
end Pv

namespace Pv
open PySem L2

/-! ## how values and heaps stand for data -/
/-- a list that nobody changes: the script -/
def FrzL (K : PySem.W.Frag) (H : Hp) (a : Addr) (xs : List V) : Prop := (∃ o, H a = some (.frz o (.lst xs))) ∨
  ∃ (o : Obj) (its : Array Value) (n : Nat), K.lookup a = some o ∧ o.cls = .type "list" ∧ o.dict = none ∧ o.data = .seq its n ∧ its.size ≤ sizeLine ∧ Vals xs its.toList
mutual
inductive RepV (K : PySem.W.Frag) (Z : Addr → Prop) (ph : List Addr) (H : Hp) : V → D → Prop
  | non : RepV K Z ph H .non .non
  | bl (b : Bool) : RepV K Z ph H (.bl b) (.bl b)
  | int (i : Int) : RepV K Z ph H (.int i) (.int i)
  | str (x : Str) : RepV K Z ph H (.str x) (.str x)
  | tup {a : Addr} {vs : List V} {ds : List D} (h : SqT K H a vs) (r : RepVs K Z ph H vs ds) : RepV K Z ph H (.ref a) (.tup ds)
  | lst {a : Addr} {vs : List V} {ds : List D} (h : H a = some (.lst vs)) (n : a ∉ ph) (z : ¬ Z a) (r : RepVs K Z ph H vs ds) : RepV K Z ph H (.ref a) (.lst ds)
  | frz {a : Addr} {vs : List V} {ds : List D} (h : FrzL K H a vs) (r : RepVs K Z ph H vs ds) : RepV K Z ph H (.ref a) (.frz ds)
  | ref {a : Addr} {l : Nat} (h : ph[l]? = some a) : RepV K Z ph H (.ref a) (.ref l)
inductive RepVs (K : PySem.W.Frag) (Z : Addr → Prop) (ph : List Addr) (H : Hp) : List V → List D → Prop
  | nil : RepVs K Z ph H [] []
  | cons {v : V} {d : D} {vs : List V} {ds : List D} (h : RepV K Z ph H v d) (r : RepVs K Z ph H vs ds) : RepVs K Z ph H (v :: vs) (d :: ds)
end

/-- what a run leaves of what stood -/
structure Sx (ph : List Addr) (H : Hp) (ph' : List Addr) (H' : Hp) : Prop where
  ext : ∃ more, ph' = ph ++ more
  new : ∀ a ∈ ph', a ∈ ph ∨ H a = none
  fr : ∀ a o, H a = some o → a ∉ ph → H' a = some o
  ft : ∀ a o, H a = some o → (∀ vs, o ≠ HO.lst vs) → H' a = some o
  old : ∀ a o, H a = some o → ∃ o', H' a = some o'
structure Wd (K : PySem.W.Frag) (Z : Addr → Prop) (ph : List Addr) (m : M) (H : Hp) : Prop where
  len : ph.length = m.length
  nd : ph.Nodup
  obj : ∀ (l : Nat) (xs : List D), m[l]? = some (MO.lst xs) → ∃ a vs, ph[l]? = some a ∧ H a = some (.lst vs) ∧ RepVs K Z ph H vs xs
  zin : ∀ a, Z a → ∃ o, H a = some o

section
variable {K : PySem.W.Frag} {Z Z' : Addr → Prop} {ph ph' ph1 ph2 : List Addr} {H H' H1 H2 : Hp} {m m' : M} {v : V} {d : D} {vs : List V} {ds : List D} {σ : L2.St} {env : Env}

theorem Sx.refl : Sx ph H ph H := ⟨⟨[], by simp⟩, fun _ h => .inl h, fun _ _ h _ => h, fun _ _ h _ => h, fun _ o h => ⟨o, h⟩⟩
theorem Sx.trans (s : Sx ph H ph1 H1) (t : Sx ph1 H1 ph2 H2) : Sx ph H ph2 H2 := by
  refine ⟨?_, fun a ha => ?_, fun a o h n => ?_, fun a o h n => t.ft a o (s.ft a o h n) n, fun a o h => ?_⟩
  · obtain ⟨x, e1⟩ := s.ext
    obtain ⟨y, e2⟩ := t.ext
    exact ⟨x ++ y, by rw [e2, e1, List.append_assoc]⟩
  · rcases t.new a ha with h | h
    · exact s.new a h
    · right
      cases q : H a with
      | none => rfl
      | some o =>
        obtain ⟨o', e⟩ := s.old a o q
        rw [e] at h; cases h
  · refine t.fr a o (s.fr a o h n) fun h1 => ?_
    rcases s.new a h1 with z | z
    · exact n z
    · rw [z] at h; cases h
  · obtain ⟨o', e⟩ := s.old a o h
    exact t.old a o' e
theorem Sx.upd {p : Addr} {o : HO} (h : H p = none) : Sx ph H ph (upd H p o) := by
  have k : ∀ a u, H a = some u → L2.upd H p o a = some u := fun a u e => by rw [upd_ne (ne_of_none e h)]; exact e
  exact ⟨⟨[], by simp⟩, fun _ h => .inl h, fun a u e _ => k a u e, fun a u e _ => k a u e, fun a u e => ⟨u, k a u e⟩⟩
theorem Sx.free (s : Sx ph H ph' H') {p : Addr} (h : H' p = none) : H p = none := by
  cases q : H p with
  | none => rfl
  | some o =>
    obtain ⟨o', e⟩ := s.old p o q
    rw [e] at h; cases h
theorem Sx.mem (s : Sx ph H ph' H') {a : Addr} (h : a ∈ ph) : a ∈ ph' := by
  obtain ⟨x, e⟩ := s.ext
  rw [e]; exact List.mem_append_left _ h
theorem Sx.sqT {a : Addr} (s : Sx ph H ph' H') (h : SqT K H a vs) : SqT K H' a vs := by
  rcases h with (h | ⟨o, h⟩) | h
  · exact .inl (.inl (s.ft a _ h fun _ e => by cases e))
  · exact .inl (.inr ⟨o, s.ft a _ h fun _ e => by cases e⟩)
  · exact .inr h
theorem FrzL.sqL {a : Addr} (h : FrzL K H a vs) : SqL K H a vs := by
  rcases h with ⟨o, h⟩ | h
  · exact .inl (.inr ⟨o, h⟩)
  · exact .inr h
theorem Sx.frzL {a : Addr} (s : Sx ph H ph' H') (h : FrzL K H a vs) : FrzL K H' a vs := by
  rcases h with ⟨o, h⟩ | h
  · exact .inl ⟨o, s.ft a _ h fun _ e => by cases e⟩
  · exact .inr h
theorem Sx.notin {a : Addr} {o : HO} (s : Sx ph H ph' H') (h : H a = some o) (n : a ∉ ph) : a ∉ ph' := fun hn => by
  rcases s.new a hn with z | z
  · exact n z
  · rw [h] at z; cases z
mutual
theorem RepV.mono (s : Sx ph H ph' H') : ∀ {v d}, RepV K Z ph H v d → RepV K Z ph' H' v d
  | _, _, .non => .non
  | _, _, .bl b => .bl b
  | _, _, .int i => .int i
  | _, _, .str x => .str x
  | _, _, .tup h r => .tup (s.sqT h) (RepVs.mono s r)
  | _, _, .lst h n z r => .lst (s.fr _ _ h n) (s.notin h n) z (RepVs.mono s r)
  | _, _, .frz h r => .frz (s.frzL h) (RepVs.mono s r)
  | _, _, .ref h => .ref (by
      obtain ⟨x, e⟩ := s.ext
      rw [e, List.getElem?_append_left (List.getElem?_eq_some_iff.mp h).1]
      exact h)
theorem RepVs.mono (s : Sx ph H ph' H') : ∀ {vs ds}, RepVs K Z ph H vs ds → RepVs K Z ph' H' vs ds
  | _, _, .nil => .nil
  | _, _, .cons h r => .cons (RepV.mono s h) (RepVs.mono s r)
end
/-- a place more that nobody may hold, one fewer -/
def Zp (Z : Addr → Prop) (p : Addr) : Addr → Prop := fun a => a = p ∨ Z a
mutual
theorem RepV.zp {p : Addr} (hp : H p = none) : ∀ {v d}, RepV K Z ph H v d → RepV K (Zp Z p) ph H v d
  | _, _, .non => .non
  | _, _, .bl b => .bl b
  | _, _, .int i => .int i
  | _, _, .str x => .str x
  | _, _, .tup h r => .tup h (RepVs.zp hp r)
  | _, _, .lst h n z r => .lst h n (fun q => q.elim (ne_of_none h hp) z) (RepVs.zp hp r)
  | _, _, .frz h r => .frz h (RepVs.zp hp r)
  | _, _, .ref h => .ref h
theorem RepVs.zp {p : Addr} (hp : H p = none) : ∀ {vs ds}, RepVs K Z ph H vs ds → RepVs K (Zp Z p) ph H vs ds
  | _, _, .nil => .nil
  | _, _, .cons h r => .cons (RepV.zp hp h) (RepVs.zp hp r)
end
mutual
theorem RepV.unz {p : Addr} : ∀ {v d}, RepV K (Zp Z p) ph H v d → RepV K Z ph H v d
  | _, _, .non => .non
  | _, _, .bl b => .bl b
  | _, _, .int i => .int i
  | _, _, .str x => .str x
  | _, _, .tup h r => .tup h (RepVs.unz r)
  | _, _, .lst h n z r => .lst h n (fun q => z (.inr q)) (RepVs.unz r)
  | _, _, .frz h r => .frz h (RepVs.unz r)
  | _, _, .ref h => .ref h
theorem RepVs.unz {p : Addr} : ∀ {vs ds}, RepVs K (Zp Z p) ph H vs ds → RepVs K Z ph H vs ds
  | _, _, .nil => .nil
  | _, _, .cons h r => .cons (RepV.unz h) (RepVs.unz r)
end
mutual
theorem RepV.box {p : Addr} : ∀ {v d}, RepV K (Zp Z p) ph H v d → RepV K Z (ph ++ [p]) H v d
  | _, _, .non => .non
  | _, _, .bl b => .bl b
  | _, _, .int i => .int i
  | _, _, .str x => .str x
  | _, _, .tup h r => .tup h (RepVs.box r)
  | _, _, .lst h n z r => .lst h (fun q => (List.mem_append.mp q).elim n fun q => z (.inl (by simpa using q))) (fun q => z (.inr q)) (RepVs.box r)
  | _, _, .frz h r => .frz h (RepVs.box r)
  | _, _, .ref h => .ref (by rw [List.getElem?_append_left (List.getElem?_eq_some_iff.mp h).1]; exact h)
theorem RepVs.box {p : Addr} : ∀ {vs ds}, RepVs K (Zp Z p) ph H vs ds → RepVs K Z (ph ++ [p]) H vs ds
  | _, _, .nil => .nil
  | _, _, .cons h r => .cons (RepV.box h) (RepVs.box r)
end
mutual
def below (n : Nat) : D → Bool
  | .tup xs => belows n xs
  | .lst xs => belows n xs
  | .frz xs => belows n xs
  | .ref l => decide (l < n)
  | _ => true
def belows (n : Nat) : List D → Bool
  | [] => true
  | x :: r => below n x && belows n r
end
mutual
theorem below_pure (n : Nat) : ∀ {d : D}, pure_ d = true → below n d = true
  | .non, _ => rfl
  | .bl _, _ => rfl
  | .int _, _ => rfl
  | .str _, _ => rfl
  | .tup xs, h => belows_pure n (ds := xs) (by simpa [pure_] using h)
  | .lst xs, h => belows_pure n (ds := xs) (by simpa [pure_] using h)
  | .frz _, h => by simp [pure_] at h
  | .ref _, h => by simp [pure_] at h
theorem belows_pure (n : Nat) : ∀ {ds : List D}, pures ds = true → belows n ds = true
  | [], _ => rfl
  | x :: r, h => by
    have h : pure_ x = true ∧ pures r = true := by simpa [pures] using h
    simp only [belows, below_pure n h.1, belows_pure n h.2, Bool.and_self]
end
mutual
theorem RepV.blw : ∀ {v d}, RepV K Z ph H v d → Pv.below ph.length d = true
  | _, _, .non => rfl
  | _, _, .bl b => rfl
  | _, _, .int i => rfl
  | _, _, .str x => rfl
  | _, _, .tup h r => RepVs.blw r
  | _, _, .lst h n z r => RepVs.blw r
  | _, _, .frz h r => RepVs.blw r
  | _, _, .ref h => decide_eq_true (List.getElem?_eq_some_iff.mp h).1
theorem RepVs.blw : ∀ {vs ds}, RepVs K Z ph H vs ds → belows ph.length ds = true
  | _, _, .nil => rfl
  | _, _, .cons h r => by simp only [belows, RepV.blw h, RepVs.blw r, Bool.and_self]
end
mutual
theorem RepV.cut {more : List Addr} : ∀ {v d}, Pv.below ph.length d = true → RepV K Z (ph ++ more) H v d → RepV K Z ph H v d
  | _, _, _, .non => .non
  | _, _, _, .bl b => .bl b
  | _, _, _, .int i => .int i
  | _, _, _, .str x => .str x
  | _, _, q, .tup h r => .tup h (RepVs.cut q r)
  | _, _, q, .lst h n z r => .lst h (fun x => n (List.mem_append_left _ x)) z (RepVs.cut q r)
  | _, _, q, .frz h r => .frz h (RepVs.cut q r)
  | _, _, q, .ref h => .ref (by rw [List.getElem?_append_left (of_decide_eq_true q)] at h; exact h)
theorem RepVs.cut {more : List Addr} : ∀ {vs ds}, belows ph.length ds = true → RepVs K Z (ph ++ more) H vs ds → RepVs K Z ph H vs ds
  | _, _, _, .nil => .nil
  | _, _, q, .cons h r => by
    simp only [belows, Bool.and_eq_true] at q
    exact .cons (RepV.cut q.1 h) (RepVs.cut q.2 r)
end

/-! ### lists of values -/
theorem RepVs.len (r : RepVs K Z ph H vs ds) : vs.length = ds.length := by
  induction ds generalizing vs with
  | nil => cases r; rfl
  | cons d ds ih => cases r with | cons h r => simp [ih r]
theorem RepVs.get (r : RepVs K Z ph H vs ds) {i : Nat} {d : D} (h : ds[i]? = some d) : ∃ v, vs[i]? = some v ∧ RepV K Z ph H v d := by
  induction ds generalizing vs i with
  | nil => simp at h
  | cons d0 ds ih =>
    cases r with
    | cons h0 r =>
      cases i with
      | zero => simp at h; subst h; exact ⟨_, rfl, h0⟩
      | succ i => simp at h; simpa using ih r h
theorem RepVs.get' (r : RepVs K Z ph H vs ds) {i : Nat} {v : V} (h : vs[i]? = some v) : ∃ d, ds[i]? = some d ∧ RepV K Z ph H v d := by
  induction ds generalizing vs i with
  | nil => cases r; simp at h
  | cons d0 ds ih =>
    cases r with
    | cons h0 r =>
      cases i with
      | zero => simp at h; subst h; exact ⟨_, rfl, h0⟩
      | succ i => simp at h; simpa using ih r h
theorem RepVs.append {ws : List V} {es : List D} (r : RepVs K Z ph H vs ds) (q : RepVs K Z ph H ws es) : RepVs K Z ph H (vs ++ ws) (ds ++ es) := by
  induction ds generalizing vs with
  | nil => cases r; exact q
  | cons d ds ih => cases r with | cons h r => exact .cons h (ih r)
theorem RepVs.take (r : RepVs K Z ph H vs ds) (n : Nat) : RepVs K Z ph H (vs.take n) (ds.take n) := by
  induction ds generalizing vs n with
  | nil => cases r; simp; exact .nil
  | cons d ds ih =>
    cases r with
    | cons h r =>
      cases n with
      | zero => exact .nil
      | succ n => exact .cons h (ih r n)
theorem RepVs.drop (r : RepVs K Z ph H vs ds) (n : Nat) : RepVs K Z ph H (vs.drop n) (ds.drop n) := by
  induction ds generalizing vs n with
  | nil => cases r; simp; exact .nil
  | cons d ds ih =>
    cases r with
    | cons h r =>
      cases n with
      | zero => exact .cons h r
      | succ n => exact ih r n
theorem RepVs.set (r : RepVs K Z ph H vs ds) (q : RepV K Z ph H v d) (n : Nat) : RepVs K Z ph H (vs.set n v) (ds.set n d) := by
  induction ds generalizing vs n with
  | nil => cases r; exact .nil
  | cons d ds ih =>
    cases r with
    | cons h r =>
      cases n with
      | zero => exact .cons q r
      | succ n => exact .cons h (ih r n)
theorem RepVs.erase (r : RepVs K Z ph H vs ds) (n : Nat) : RepVs K Z ph H (vs.eraseIdx n) (ds.eraseIdx n) := by
  induction ds generalizing vs n with
  | nil => cases r; exact .nil
  | cons d ds ih =>
    cases r with
    | cons h r =>
      cases n with
      | zero => exact r
      | succ n => exact .cons h (ih r n)
theorem RepVs.dropLast (r : RepVs K Z ph H vs ds) : RepVs K Z ph H vs.dropLast ds.dropLast := by
  have e := r.len
  rw [List.dropLast_eq_take, List.dropLast_eq_take, e]
  exact r.take _
theorem RepVs.rep (r : RepVs K Z ph H vs ds) (k : Nat) : RepVs K Z ph H (List.replicate k vs).flatten (List.replicate k ds).flatten := by
  induction k with
  | zero => exact .nil
  | succ k ih => rw [List.replicate_succ, List.replicate_succ, List.flatten_cons, List.flatten_cons]; exact r.append ih

/-! ### the mutable things -/
theorem Wd.mono (w : Wd K Z ph m H) (s : Sx ph H ph H') (hz : ∀ (l : Nat) (xs : List D) (a : Addr), m[l]? = some (MO.lst xs) → ph[l]? = some a → ∀ vs, H a = some (.lst vs) → H' a = some (.lst vs)) : Wd K Z ph m H' := by
  refine ⟨w.len, w.nd, fun l xs h => ?_, fun a h => ?_⟩
  · obtain ⟨a, vs, e1, e2, r⟩ := w.obj l xs h
    exact ⟨a, vs, e1, hz l xs a h e1 vs e2, r.mono s⟩
  · obtain ⟨o, e⟩ := w.zin a h
    exact s.old a o e
/-- a new thing is laid -/
theorem Wd.new (w : Wd K Z ph m H) {p : Addr} {o : HO} (h : H p = none) : Wd K Z ph m (upd H p o) :=
  w.mono (Sx.upd h) fun _ _ _ _ _ vs e => by rw [upd_ne (ne_of_none e h)]; exact e
theorem Wd.at (w : Wd K Z ph m H) {l : Nat} {xs : List D} (h : m[l]? = some (MO.lst xs)) {a : Addr} (ha : ph[l]? = some a) : ∃ vs, H a = some (.lst vs) ∧ RepVs K Z ph H vs xs := by
  obtain ⟨b, vs, e1, e2, r⟩ := w.obj l xs h
  rw [ha] at e1; cases e1
  exact ⟨vs, e2, r⟩
theorem Wd.lst (w : Wd K Z ph m H) {a : Addr} (h : a ∈ ph) : ∃ vs, H a = some (.lst vs) := by
  obtain ⟨l, hl, e⟩ := List.getElem_of_mem h
  have hm : l < m.length := by rw [← w.len]; exact hl
  cases q : m[l] with
  | lst xs =>
    obtain ⟨vs, h1, _⟩ := w.at (l := l) (xs := xs) (by rw [List.getElem?_eq_getElem hm, q]) (List.getElem?_eq_some_iff.mpr ⟨hl, e⟩)
    exact ⟨vs, h1⟩
/-- a mutable thing is changed -/
theorem Sx.write (w : Wd K Z ph m H) {l : Nat} {a : Addr} {us : List V} (ha : ph[l]? = some a) : Sx ph H ph (L2.upd H a (.lst us)) := by
  have hm : a ∈ ph := List.mem_of_getElem? ha
  obtain ⟨vs, hv⟩ := w.lst hm
  refine ⟨⟨[], by simp⟩, fun _ h => .inl h, fun b o h n => ?_, fun b o h n => ?_, fun b o h => ?_⟩
  · rw [upd_ne (fun (e : b = a) => n (by rw [e]; exact hm))]; exact h
  · rw [upd_ne (fun (e : b = a) => by subst e; rw [hv] at h; cases h; exact n _ rfl)]; exact h
  · by_cases e : b = a
    · subst e; exact ⟨_, upd_same⟩
    · exact ⟨o, by rw [upd_ne e]; exact h⟩
theorem Wd.write (w : Wd K Z ph m H) {l : Nat} {a : Addr} {us : List V} {es : List D} (ha : ph[l]? = some a) (r : RepVs K Z ph H us es) : Wd K Z ph (m.set l (.lst es)) (upd H a (.lst us)) := by
  have s := Sx.write (us := us) w ha
  have hl : l < ph.length := (List.getElem?_eq_some_iff.mp ha).1
  refine ⟨by rw [List.length_set]; exact w.len, w.nd, fun j xs h => ?_, fun b h => ?_⟩
  · by_cases e : l = j
    · subst e
      rw [List.getElem?_set_self (by rw [← w.len]; exact hl)] at h
      cases h
      exact ⟨a, us, ha, upd_same, r.mono s⟩
    · rw [List.getElem?_set_ne e] at h
      obtain ⟨b, vs, e1, e2, r⟩ := w.obj j xs h
      refine ⟨b, vs, e1, ?_, r.mono s⟩
      rw [upd_ne]; exact e2
      rintro rfl
      exact e (nodup_ix' w.nd ha e1)
  · obtain ⟨o, q⟩ := w.zin b h
    exact s.old b o q
where
  nodup_ix' {N : List Addr} (hN : N.Nodup) {i j : Nat} {x : Addr} (a : N[i]? = some x) (b : N[j]? = some x) : i = j := by
    obtain ⟨h1, e1⟩ := List.getElem?_eq_some_iff.mp a
    obtain ⟨h2, e2⟩ := List.getElem?_eq_some_iff.mp b
    exact (List.getElem_inj hN).mp (e1.trans e2.symm)
theorem Wd.unz {p : Addr} (w : Wd K (Zp Z p) ph m H) : Wd K Z ph m H := by
  refine ⟨w.len, w.nd, fun l xs h => ?_, fun a h => w.zin a (.inr h)⟩
  obtain ⟨a, vs, e1, e2, r⟩ := w.obj l xs h
  exact ⟨a, vs, e1, e2, r.unz⟩
theorem Wd.box {p : Addr} (w : Wd K (Zp Z p) ph m H) (h : H p = some (.lst vs)) (n : p ∉ ph) (r : RepVs K (Zp Z p) ph H vs ds) : Wd K Z (ph ++ [p]) (m ++ [.lst ds]) H := by
  refine ⟨by simp [w.len], ?_, fun l xs h' => ?_, fun a h => w.zin a (.inr h)⟩
  · rw [List.nodup_append]
    refine ⟨w.nd, by simp, fun a ha b hb e => n ?_⟩
    have q : b = p := by simpa using hb
    rw [← q, ← e]
    exact ha
  · by_cases q : l < m.length
    · rw [List.getElem?_append_left q] at h'
      obtain ⟨a, vs, e1, e2, r⟩ := w.obj l xs h'
      exact ⟨a, vs, by rw [List.getElem?_append_left (by rw [w.len]; exact q)]; exact e1, e2, r.box⟩
    · have e : l = m.length := by
        have := (List.getElem?_eq_some_iff.mp h').1
        rw [List.length_append, List.length_singleton] at this
        omega
      subst e
      have e : ds = xs := by simpa using h'
      subst e
      exact ⟨p, vs, by rw [← w.len]; simp, h, r.box⟩
/-- fewer mutable things -/
theorem Wd.cut {more : List Addr} {H0 : Hp} {m' : M} (w0 : Wd K Z ph m H0) (w : Wd K Z (ph ++ more) m' H) (e : m'.take m.length = m) : Wd K Z ph m H := by
  have hnd := (List.nodup_append.mp w.nd).1
  refine ⟨w0.len, hnd, fun l xs h => ?_, fun a h => w.zin a h⟩
  have hl : l < m.length := (List.getElem?_eq_some_iff.mp h).1
  have h' : m'[l]? = some (MO.lst xs) := by
    rw [← e, List.getElem?_take_of_lt hl] at h
    exact h
  obtain ⟨a, vs, e1, e2, r⟩ := w.obj l xs h'
  obtain ⟨b, us, f1, f2, q⟩ := w0.obj l xs h
  exact ⟨a, vs, by rw [List.getElem?_append_left (by rw [w0.len]; exact hl)] at e1; exact e1, e2, r.cut q.blw⟩
theorem Sx.cut {more : List Addr} (s : Sx ph H (ph ++ more) H') : Sx ph H ph H' := ⟨⟨[], by simp⟩, fun _ h => .inl h, s.fr, s.ft, s.old⟩
end

/-! ## frames -/
structure RepE (K : PySem.W.Frag) (Z : Addr → Prop) (ph : List Addr) (H : Hp) (σ : L2.St) (env : Env) : Prop where
  len : σ.length = env.length
  at_ : ∀ (i : Nat) (d : D), env[i]? = some (some d) → ∃ v, σ[i]? = some (some v) ∧ RepV K Z ph H v d
section
variable {K : PySem.W.Frag} {Z Z' : Addr → Prop} {ph ph' ph1 ph2 : List Addr} {H H' H1 H2 : Hp} {m m' : M} {v : V} {d : D} {vs : List V} {ds : List D} {σ : L2.St} {env : Env}
theorem RepE.mono (r : RepE K Z ph H σ env) (s : Sx ph H ph' H') : RepE K Z ph' H' σ env := ⟨r.len, fun i d h => let ⟨v, e, q⟩ := r.at_ i d h; ⟨v, e, q.mono s⟩⟩
theorem RepE.zp {p : Addr} (r : RepE K Z ph H σ env) (hp : H p = none) : RepE K (Zp Z p) ph H σ env := ⟨r.len, fun i d h => let ⟨v, e, q⟩ := r.at_ i d h; ⟨v, e, q.zp hp⟩⟩
theorem RepE.unz {p : Addr} (r : RepE K (Zp Z p) ph H σ env) : RepE K Z ph H σ env := ⟨r.len, fun i d h => let ⟨v, e, q⟩ := r.at_ i d h; ⟨v, e, q.unz⟩⟩
theorem RepE.set (r : RepE K Z ph H σ env) (q : RepV K Z ph H v d) (i : Nat) : RepE K Z ph H (σ.set i (some v)) (env.set i (some d)) := by
  refine ⟨by simp [r.len], fun j d' h => ?_⟩
  by_cases e : i = j
  · subst e
    by_cases hi : i < env.length
    · rw [List.getElem?_set_self hi] at h
      cases h
      exact ⟨v, by rw [List.getElem?_set_self (by rw [r.len]; exact hi)], q⟩
    · rw [List.getElem?_eq_none (by simpa using hi)] at h; cases h
  · rw [List.getElem?_set_ne e] at h
    rw [List.getElem?_set_ne e]
    exact r.at_ j d' h
theorem RepE.wipe (r : RepE K Z ph H σ env) : ∀ l : List Nat, RepE K Z ph H (wipe σ l) (wipeE env l)
  | [] => r
  | i :: l => by
    have r := r.wipe l
    unfold L2.wipe wipeE
    refine ⟨by simp [r.len], fun j d' h => ?_⟩
    by_cases e : i = j
    · subst e
      by_cases hi : i < (wipeE env l).length
      · rw [List.getElem?_set_self hi] at h; cases h
      · rw [List.getElem?_eq_none (by simpa using hi)] at h; cases h
    · rw [List.getElem?_set_ne e] at h
      rw [List.getElem?_set_ne e]
      exact r.at_ j d' h
end
end Pv

/-! ## rules that the kit's hand layer lacks: tuple * k for k < 2, sorted of a tuple -/
namespace Pv
open PySem PySem.Spec PyProof.Rows L2
section
theorem tm_same (l : Addr) (xs : Array Value) (n : Nat) (dd : Option Addr) (sl : Array (Option Value)) (x : Int) (u : Tok) (c0 : (decide (x < -(2 ^ 63)) || decide (x ≥ 2 ^ 63)) = false) (c1 : (xs.isEmpty || x == 1) = true) :
    Meets (Builtin.«tuple.__mul__» ⟨[.ref l, .int x u], []⟩) (fun _ R s => s.heap.get? l = some { cls := .type "tuple", dict := dd, data := .seq xs n, slots := sl } ∧ R (.ok (.ret (.ref l))) s) :=
  .of_wp fun prog w A R s h => by
    obtain ⟨hp, g, d, tk, os⟩ := s
    obtain ⟨hl, h⟩ := h
    have f1 := AutoSeq1.idx_int
    wp_walk using wpAny_loadPart' hl
    refine wpAny_ite_false (decide_eq_false (by rw [c0]; exact Bool.false_ne_true)) ?_
    wp_walk using wpAny_loadPart' hl
    exact ⟨_, rfl, h⟩
theorem tm_none (l : Addr) (xs : Array Value) (n : Nat) (dd : Option Addr) (sl : Array (Option Value)) (x : Int) (u : Tok) (c0 : (decide (x < -(2 ^ 63)) || decide (x ≥ 2 ^ 63)) = false) (c1 : (xs.isEmpty || x == 1) = false) (c2 : (decide (x ≤ 0) || xs.isEmpty) = true) :
    Meets (Builtin.«tuple.__mul__» ⟨[.ref l, .int x u], []⟩) (fun _ R s => s.heap.get? l = some { cls := .type "tuple", dict := dd, data := .seq xs n, slots := sl } ∧
      R (.ok (.ret (.ref s.heap.objs.size))) { s with heap := s.heap.push { cls := .type "tuple", data := .seq #[] } }) :=
  .of_wp fun prog w A R s h => by
    obtain ⟨hp, g, d, tk, os⟩ := s
    obtain ⟨hl, h⟩ := h
    have f1 := AutoSeq1.idx_int
    wp_walk using wpAny_loadPart' hl
    refine wpAny_ite_false (decide_eq_false (by rw [c0]; exact Bool.false_ne_true)) ?_
    wp_walk using wpAny_loadPart' hl
    exact ⟨_, rfl, h⟩
variable {X : Cx}
def rRepS (K : PySem.W.Frag) : R2 := fun x y H Q => ∃ l k xs, x = .ref l ∧ y = .int k ∧ SqT K H l xs ∧ -(2 ^ 63) ≤ k ∧ k < 2 ^ 63 ∧ (xs = [] ∨ k = 1) ∧ Q (.ref l) H
def rRepZ (K : PySem.W.Frag) : R2 := fun x y H Q => ∃ l k xs, x = .ref l ∧ y = .int k ∧ SqT K H l xs ∧ -(2 ^ 63) ≤ k ∧ k ≤ 0 ∧ xs ≠ [] ∧ ∀ p, H p = none → Q (.ref p) (upd H p (.tup []))
theorem op_repS : OpR X (binaryOp .Mult) (rRepS X.K) := by
  intro pins s σ H x y v u Q I rx ry h
  obtain ⟨l, k, xs, rfl, rfl, hT, h1, h2, hc, q⟩ := h
  cases rx
  obtain ⟨t, rfl⟩ := ry
  obtain ⟨its, r, ⟨⟨cls, dd, data, sl⟩, ho, hcl, n, hd⟩, hs⟩ := I.tuple hT
  simp only at hcl hd
  subst hcl hd
  have c0 : (decide (k < -(2 ^ 63)) || decide (k ≥ 2 ^ 63)) = false := by
    rw [decide_eq_false (by omega), decide_eq_false (by omega)] <;> rfl
  have c1 : (its.toArray.isEmpty || k == 1) = true := by
    rcases hc with rfl | rfl
    · cases r; rfl
    · simp
  exact wpAny_binaryOp_repeat_ref (T := "tuple") (U := "int") (by decide) ⟨_, ho, rfl⟩ (fun s' => typeIs_int s' k t) noFill_tuple_mul F.fills_int_mul F.slot_int_rmul repeat_tuple F.slot_int_index.lookup
    (call_meets F.slot_int_rmul (typeIs_int s k t) F.entry_int_rmul (F.args_int_rmul_2 _ _) (int_rmul_tuple k t l its.toArray n dd sl)
      ⟨ho, rfl, ⟨_, ho, rfl⟩, call_meets F.slot_tuple_mul ⟨_, ho, rfl⟩ F.entry_tuple_mul (F.args_tuple_mul_2 _ _) (tm_same l its.toArray n dd sl k t c0 c1) ⟨ho, ⟨.ref l, H, I, rfl, q⟩⟩⟩)
theorem op_repZ : OpR X (binaryOp .Mult) (rRepZ X.K) := by
  intro pins s σ H x y v u Q I rx ry h
  obtain ⟨l, k, xs, rfl, rfl, hT, h1, h2, hne, q⟩ := h
  cases rx
  obtain ⟨t, rfl⟩ := ry
  obtain ⟨its, r, ⟨⟨cls, dd, data, sl⟩, ho, hcl, n, hd⟩, hs⟩ := I.tuple hT
  simp only at hcl hd
  subst hcl hd
  have c0 : (decide (k < -(2 ^ 63)) || decide (k ≥ 2 ^ 63)) = false := by
    rw [decide_eq_false (by omega), decide_eq_false (by omega)] <;> rfl
  have hi : its.toArray.isEmpty = false := by
    cases r with
    | nil => exact absurd rfl hne
    | cons a b => rfl
  have c1 : (its.toArray.isEmpty || k == 1) = false := by
    rw [hi, Bool.false_or]
    exact beq_eq_false_iff_ne.mpr (by omega)
  have c2 : (decide (k ≤ 0) || its.toArray.isEmpty) = true := by rw [decide_eq_true h2]; rfl
  refine wpAny_binaryOp_repeat_ref (T := "tuple") (U := "int") (by decide) ⟨_, ho, rfl⟩ (fun s' => typeIs_int s' k t) noFill_tuple_mul F.fills_int_mul F.slot_int_rmul repeat_tuple F.slot_int_index.lookup
    (call_meets F.slot_int_rmul (typeIs_int s k t) F.entry_int_rmul (F.args_int_rmul_2 _ _) (int_rmul_tuple k t l its.toArray n dd sl)
      ⟨ho, rfl, ⟨_, ho, rfl⟩, call_meets F.slot_tuple_mul ⟨_, ho, rfl⟩ F.entry_tuple_mul (F.args_tuple_mul_2 _ _) (tm_none l its.toArray n dd sl k t c0 c1 c2) ⟨ho, ?_⟩⟩)
  exact ⟨.ref s.heap.objs.size, _, I.laid (t' := s.toks) (o := .tup []) (fun b ob q => Heap.get?_push_of_some _ q) (Nat.le_refl _) ⟨Nat.zero_le _, [], .nil, IsTup.new _ _⟩, rfl, q _ (I.hok.fresh (Nat.le_refl _))⟩
/-! ### sorted of a tuple -/
theorem col_tup {prog : Program} {w : World} {A : Around} {E : Value → Shared → Prop} {s : Shared} {l : Addr} {vs : List Value} {Q : List Value → Shared → Prop} (hl : s.heap.IsTuple l vs.toArray)
    (h : Q vs { s with heap := (s.heap.push (seqObj "list" #[] 0)).update s.heap.objs.size (Obj.mapSeq (· ++ vs.toArray)) }) (hsz : vs.length ≤ sizeLine) :
    wpAny (model prog w) A (collect (.ref l)) Q E s := by
  obtain ⟨o, ho, hc, n, hd⟩ := id hl
  unfold collect
  refine wpAny_bind (wpAny_runValue (codeAny_builtin entry_proto_collect' ?_))
  show wpAny _ _ (do again (.builtin "list.__iadd__" ⟨[← newList [], .ref l], []⟩)) _ _ s
  refine wpAny_bind (wpAny_newList (wpAny_pure ⟨Code.quiet_builtin _ (by decide +kernel), codeAny_builtin entry_list_iadd' ?_⟩))
  show wpAny _ _ (Builtin.List.listExtendWith (.ref s.heap.objs.size) (.ref l) (.ref s.heap.objs.size)) _ _ { s with heap := s.heap.push (seqObj "list" #[] 0) }
  unfold Builtin.List.listExtendWith
  have hq : (s.heap.push (seqObj "list" #[] 0)).get? l = some o := Heap.get?_push_of_some _ ho
  refine wpAny_bind (wpAny_typeOf (T := "tuple") ⟨o, hq, hc⟩ ?_)
  have ht : (Value.type "tuple" == Value.type "tuple") = true := by rfl
  rw [if_pos (by rw [ht]; simp)]
  refine wpAny_bind (listItems_at hq hd ?_)
  refine wpAny_bind (listItems_at (xs := #[]) (n := 0) (Heap.get?_push_size _ rfl) rfl ?_)
  rw [if_neg (by simp)]
  refine wpAny_bind (listUpdate_at (xs := #[]) (n := 0) (Heap.get?_push_size _ rfl) rfl ?_ (Nat.zero_le _) (by show (#[] ++ vs.toArray).size ≤ sizeLine + 1; simp only [Array.size_append, List.size_toArray, List.length_nil]; omega))
  refine wpAny_pure ?_
  show wpAny (model prog w) A (do
      let z ← load s.heap.objs.size
      match z.data with
      | .seq ys _ => pure ys.toList
      | _ => unsupported "internal:collect") Q E { s with heap := (s.heap.push (seqObj "list" #[] 0)).update s.heap.objs.size (Obj.mapSeq (· ++ vs.toArray)) }
  refine wpAny_bind (wpAny_load (get?_update_seq (Heap.get?_push_size _ rfl) _) ?_)
  show wpAny _ _ (pure ((#[] : Array Value) ++ vs.toArray).toList) Q E _
  rw [show ((#[] : Array Value) ++ vs.toArray).toList = vs by simp]
  exact wpAny_pure h
open SrtO Srt in
theorem srt_tup {prog : Program} {w : World} {A : Around} {E : Value → Shared → Prop} {s : Shared} {l : Addr} {vs : List Value} {lt : Value → Value → Bool} {Q : Value → Shared → Prop} (O : Swo lt) (hl : s.heap.IsTuple l vs.toArray) (hz : vs.length ≤ sizeLine)
    (hS : 2 ≤ vs.length → ∀ (g : Heap) (a : Addr), g.get? a = some (seqObj "list" vs.toArray 0) → (∀ b o, s.heap.get? b = some o → b ≠ a ∧ g.get? b = some o) → SortableO prog w A.in1.in1 { s with heap := g } a vs lt)
    (h : ∀ out : List Value, Srtd lt out → Stb lt out vs → Q (.ref (s.heap.objs.size + 1)) { s with heap := sortedAll s.heap vs out.toArray }) :
    wpAny (model prog w) A (call (.builtin "sorted") [.ref l]) Q E s := by
  refine Calls.call_function_entry kind_sorted plain_sorted entry_sorted (args_sorted1 _) ?_
  unfold Builtin.«sorted»
  refine wpAny_bind (m := checkCount "sorted" 1 1 _) (wpAny_pure ?_)
  refine wpAny_bind (col_tup hl ?_ hz)
  refine wpAny_bind (wpAny_newList ?_ hz)
  generalize hg : (s.heap.push (seqObj "list" #[] 0)).update s.heap.objs.size (Obj.mapSeq (· ++ vs.toArray)) = g
  have g1 : g.objs.size = s.heap.objs.size + 1 := by rw [← hg, Heap.size_update, size_push']
  have g2 : (g.push (seqObj "list" vs.toArray 0)).get? (s.heap.objs.size + 1) = some (seqObj "list" vs.toArray 0) := by
    rw [← g1]; exact Heap.get?_push_size _ rfl
  have g3 : ∀ b o, s.heap.get? b = some o → b ≠ s.heap.objs.size + 1 ∧ (g.push (seqObj "list" vs.toArray 0)).get? b = some o := fun b o q => by
    have hb : b < s.heap.objs.size := Heap.lt_size q
    refine ⟨Nat.ne_of_lt (Nat.lt_succ_of_lt hb), Heap.get?_push_of_some _ ?_⟩
    rw [← hg, Heap.get?_update_ne _ _ _ _ (Nat.ne_of_lt hb)]
    exact Heap.get?_push_of_some _ q
  show wpAny _ _ _ _ _ { s with heap := g.push (seqObj "list" vs.toArray 0) }
  rw [g1]
  refine wpAny_bind (wpAny_holding (wpAny_call_entry slot_list_sort ⟨_, g2, rfl⟩ entry_list_sort (list_sort_ord O g2 hz (fun h2 => hS h2 _ _ g2 g3) fun out o1 o2 => ⟨_, rfl, ?_⟩) (args_list_sort _)))
  refine wpAny_pure ⟨_, rfl, ?_⟩
  subst hg
  exact h out o1 o2
def rSrtT (K : PySem.W.Frag) : List V → Hp → VK → Prop := fun vs H Q => ∃ (a : Addr) (ns : List Int), vs = [V.ref a] ∧ SqT K H a (ns.map V.int) ∧
  ∀ (ns' : List Int) (p : Addr), ns'.Perm ns → ns'.Pairwise (· ≤ ·) → H p = none → Q (.ref p) (upd H p (.lst (ns'.map V.int)))
theorem cr_srtT : CallR X (.builtin "sorted") (rSrtT X.K) := by
  intro pins s σ H vs us Q I r h
  obtain ⟨a, ns, rfl, ht, q⟩ := h
  obtain ⟨its, rv, hl, hz⟩ := I.tuple ht
  rw [Vals.ref1 r]
  have hi := rv.ints
  refine srt_tup SrtO.swo_int hl (by rw [← rv.length]; exact hz) (fun h2 g a' _ _ => SrtO.ints_sortable hi h2) fun out o1 o2 => ?_
  obtain ⟨k1, k2, k3⟩ := SrtO.ints_out hi o1 o2
  obtain ⟨ep, he⟩ := sortedAll_at s.heap its out.toArray
  have hn : ((out.map SrtO.iv).map V.int).length ≤ sizeLine := by
    rw [List.length_map, k2.length_eq]
    rwa [List.length_map] at hz
  exact ⟨.ref _, upd H (s.heap.objs.size + 1) (.lst ((out.map SrtO.iv).map V.int)), I.laid (t' := s.toks) (fun _ _ => sortedAll_old) (Nat.le_succ _) ⟨hn, out, ep, vals_of_ints k1, he⟩, rfl, q _ _ k2 k3 (I.hok.fresh (Nat.le_succ _))⟩
end
theorem sort_uniq : ∀ {a b : List Int}, a.Perm b → a.Pairwise (· ≤ ·) → b.Pairwise (· ≤ ·) → a = b
  | [], b, p, _, _ => by rw [List.nil_perm.mp p]
  | x :: a, [], p, _, _ => by cases List.perm_nil.mp p
  | x :: a, y :: b, p, h1, h2 => by
    have e : x = y := by
      have m1 : x ∈ y :: b := p.mem_iff.mp List.mem_cons_self
      have m2 : y ∈ x :: a := p.mem_iff.mpr List.mem_cons_self
      rw [List.pairwise_cons] at h1 h2
      rcases List.mem_cons.mp m1 with e | m1
      · exact e
      · rcases List.mem_cons.mp m2 with e | m2
        · exact e.symm
        · have := h1.1 y m2; have := h2.1 x m1; omega
    subst e
    rw [sort_uniq (List.Perm.cons_inv p) (List.pairwise_cons.mp h1).2 (List.pairwise_cons.mp h2).2]
theorem sortD_perm (ns : List Int) : (sortD ns).Perm ns := List.mergeSort_perm _ _
theorem sortD_sorted (ns : List Int) : (sortD ns).Pairwise (· ≤ ·) := by
  have := List.pairwise_mergeSort (le := fun a b : Int => decide (a ≤ b)) (by intro a b c; simp; omega) (by intro a b; simp; omega) ns
  exact this.imp (by intro a b h; simpa using h)
theorem least_ok : ∀ {ns : List Int} {k : Int}, leastD ns = some k → k ∈ ns ∧ ∀ y ∈ ns, k ≤ y
  | [], k, h => by cases h
  | n :: r, k, h => by
    simp only [leastD, Option.some.injEq] at h
    subst h
    suffices ∀ (r : List Int) (n : Int), r.foldl (fun a b => if b < a then b else a) n ∈ n :: r ∧ ∀ y ∈ n :: r, r.foldl (fun a b => if b < a then b else a) n ≤ y from this r n
    intro r
    induction r with
    | nil => intro n; simp
    | cons x r ih =>
      intro n
      rw [List.foldl_cons]
      obtain ⟨h1, h2⟩ := ih (if x < n then x else n)
      refine ⟨?_, ?_⟩
      · rcases List.mem_cons.mp h1 with e | e
        · rw [e]; split <;> simp
        · simp [e]
      · intro y hy
        have h3 := h2 (if x < n then x else n) List.mem_cons_self
        rcases List.mem_cons.mp hy with rfl | hy
        · split at h3 <;> rename_i q <;> simp only [q, if_true, if_false] at h3 ⊢ <;> omega
        · rcases List.mem_cons.mp hy with rfl | hy
          · split at h3 <;> rename_i q <;> simp only [q, if_true, if_false] at h3 ⊢ <;> omega
          · exact h2 y (List.mem_cons_of_mem _ hy)
theorem most_ok : ∀ {ns : List Int} {k : Int}, mostD ns = some k → k ∈ ns ∧ ∀ y ∈ ns, y ≤ k
  | [], k, h => by cases h
  | n :: r, k, h => by
    simp only [mostD, Option.some.injEq] at h
    subst h
    suffices ∀ (r : List Int) (n : Int), r.foldl (fun a b => if a < b then b else a) n ∈ n :: r ∧ ∀ y ∈ n :: r, y ≤ r.foldl (fun a b => if a < b then b else a) n from this r n
    intro r
    induction r with
    | nil => intro n; simp
    | cons x r ih =>
      intro n
      rw [List.foldl_cons]
      obtain ⟨h1, h2⟩ := ih (if n < x then x else n)
      refine ⟨?_, ?_⟩
      · rcases List.mem_cons.mp h1 with e | e
        · rw [e]; split <;> simp
        · simp [e]
      · intro y hy
        have h3 := h2 (if n < x then x else n) List.mem_cons_self
        rcases List.mem_cons.mp hy with rfl | hy
        · split at h3 <;> rename_i q <;> simp only [q, if_true, if_false] at h3 ⊢ <;> omega
        · rcases List.mem_cons.mp hy with rfl | hy
          · split at h3 <;> rename_i q <;> simp only [q, if_true, if_false] at h3 ⊢ <;> omega
          · exact h2 y (List.mem_cons_of_mem _ hy)
section
variable {X : Cx}
theorem op_powW : OpR X (binaryOp .Pow) (rI (fun i j => 0 ≤ j ∧ j ≤ 100 ∧ i.natAbs.log2 < 5000) fun i j => .int (i ^ j.toNat)) := opI fun i j _ _ _ _ _ hc q => by
  have hb : Builtin.Int.intBits i ≤ 5000 := by unfold Builtin.Int.intBits; split <;> omega
  refine PyProof.Rows.pow_int hc.1 ?_ q
  have h : (Builtin.Int.intBits i : Int) * j ≤ 5000 * 100 := Int.mul_le_mul (by omega) hc.2.1 hc.1 (by decide)
  omega
theorem cr_listS (hc : X.calm = true) : CallR X (.type "list") (fun xs H Q => ∃ z : Str, xs = [.str z] ∧ z.length ≤ sizeLine ∧ ∀ l, H l = none → Q (.ref l) (upd H l (.lst (z.cps.toList.map fun c => V.str ⟨#[c]⟩)))) := by
  intro pins s σ H xs us Q I r h
  obtain ⟨z, rfl, hz, q⟩ := h
  obtain ⟨u, rfl, t, rfl⟩ := vals1 r
  refine PySem.call_list_str (I.ok.hd hc) z t (fun h' tk acc' c' kp e hi => ?_) hz
  refine ⟨.ref s.heap.objs.size, _, I.laid (t' := tk) (o := .lst (z.cps.toList.map fun c => V.str ⟨#[c]⟩)) kp (Nat.le_refl _) ⟨?_, acc'.toList, c', ?_, ?_⟩, rfl, q _ (I.hok.fresh (Nat.le_refl _))⟩
  · rw [List.length_map, Array.length_toList]; exact hz
  · refine vals_of_at ?_ ?_
    · rw [List.length_map, Array.length_toList, Array.length_toList]; exact hi.1.symm
    · intro i v u h1 h2
      obtain ⟨c, w, e1, e2⟩ := hi.2 i u (by simpa using h2)
      rw [List.getElem?_map] at h1
      have e3 : z.cps.toList[i]? = some c := by simpa using e1
      rw [e3] at h1
      cases h1
      exact ⟨w, e2⟩
  · rw [Array.toArray_toList]; exact e
end
end Pv

/-! ## zip of two rows of one length, each a list or a tuple, with strict=True or without -/
namespace Pv
open PySem PySem.Spec PyProof.Rows L2
open PySem.Sem (wp)
def SA (b : Bool) (h : Heap) (l : Addr) (xs : Array Value) : Prop := match b with
  | true => h.IsList l xs
  | false => h.IsTuple l xs
def IA (b : Bool) (h : Heap) (it l : Addr) (i : Nat) : Prop := match b with
  | true => h.IsListIter it l i
  | false => h.IsTupleIter it l i
section
variable {b : Bool} {h h' : Heap} {a c l it : Addr} {xs : Array Value} {i : Nat}
theorem SA.ext (x : SA b h a xs) (e : Heap.ExtBut c h h') (n : a ≠ c) : SA b h' a xs := by
  cases b
  · exact Heap.IsTuple.extBut x e n
  · exact Heap.IsList.extBut x e n
theorem IA.ext (x : IA b h a l i) (e : Heap.ExtBut c h h') (n : a ≠ c) : IA b h' a l i := by
  cases b
  · exact Heap.IsTupleIter.extBut x e n
  · exact Heap.IsListIter.extBut x e n
theorem IA.put (x : IA b h a l i) (e : ∀ o, h.get? a = some o → h'.get? a = some o) : IA b h' a l i := by
  cases b
  · exact Heap.IsTupleIter.at x e
  · exact Heap.IsListIter.at x e
theorem IA.obj (x : IA b h a l i) : ∃ o, h.get? a = some o ∧ ∃ f, o.data = .fields f := by
  cases b
  · obtain ⟨o, e, _, d⟩ := x; exact ⟨o, e, _, d⟩
  · obtain ⟨o, e, _, d⟩ := x; exact ⟨o, e, _, d⟩
theorem IA.lt (x : IA b h a l i) : a < h.objs.size := by obtain ⟨o, e, _⟩ := x.obj; exact Heap.lt_size e
end
section
variable {prog : Program} {w : World} {A : Around} {E : Value → Shared → Prop} {s : Shared}
theorem nx_item {b : Bool} {it l : Addr} {i : Nat} {xs : Array Value} {x : Value} {Q : Value → Shared → Prop} (hi : IA b s.heap it l i) (hl : SA b s.heap l xs) (hx : xs[i]? = some x)
    (hQ : ∀ h', IA b h' it l (i + 1) → Heap.SameBut it s.heap h' → Q x { s with heap := h' }) : wpAny (model prog w) A (Builtin.SmallTypes.nextOf (.ref it)) Q E s := by
  cases b
  · exact RZ.nextOf_tuple_item hi hl hx hQ
  · exact wpAny_nextOf_list_item hi hl hx hQ
theorem nx_end {b : Bool} {it l : Addr} {i : Nat} {xs : Array Value} {Q : Value → Shared → Prop} (hh : A.handled = none) (hi : IA b s.heap it l i) (hl : SA b s.heap l xs) (hx : xs[i]? = none)
    (hE : ∀ h' e, Heap.ExtBut it s.heap h' → (∃ o, h'.get? e = some o ∧ o.cls = .type "StopIteration") → E (.ref e) { s with heap := h' }) : wpAny (model prog w) A (Builtin.SmallTypes.nextOf (.ref it)) Q E s := by
  cases b
  · exact RZ.nextOf_tuple_end hh hi hl hx hE
  · exact wpAny_nextOf_list_end hh hi hl hx hE
theorem ne_item {b : Bool} {it l : Addr} {i : Nat} {xs : Array Value} {x : Value} {Q : Option Value → Shared → Prop} (hi : IA b s.heap it l i) (hl : SA b s.heap l xs) (hx : xs[i]? = some x)
    (hQ : ∀ h', IA b h' it l (i + 1) → Heap.SameBut it s.heap h' → Q (some x) { s with heap := h' }) : wpAny (model prog w) A (Builtin.SmallTypes.nextOrEnd (.ref it)) Q E s := by
  unfold Builtin.SmallTypes.nextOrEnd
  exact wpAny_bind (wpAny_attempt (nx_item hi hl hx fun h' a1 a2 => wpAny_pure (hQ h' a1 a2)))
theorem ne_end {b : Bool} {it l : Addr} {i : Nat} {xs : Array Value} {Q : Option Value → Shared → Prop} (hh : A.handled = none) (hi : IA b s.heap it l i) (hl : SA b s.heap l xs) (hx : xs[i]? = none)
    (hQ : ∀ h', Heap.ExtBut it s.heap h' → Q none { s with heap := h' }) : wpAny (model prog w) A (Builtin.SmallTypes.nextOrEnd (.ref it)) Q E s := by
  unfold Builtin.SmallTypes.nextOrEnd
  refine wpAny_bind (wpAny_attempt (nx_end hh hi hl hx fun h' e a1 a2 => ?_))
  obtain ⟨o, ho, hc⟩ := a2
  exact wpAny_bind (wpAny_isInstance (T := "StopIteration") (b := true) ⟨o, ho, hc⟩ isSubtype_stop (wpAny_pure (hQ _ a1)))
/-- the zip's object -/
abbrev ZO (st : Bool) (h : Heap) (z TI TO : Addr) (f0 : Value) : Prop :=
  h.get? z = some { cls := .type "zip", dict := none, data := .fields #[f0, .bool false, .bool st, .ref TI, .ref TO], slots := #[] }
theorem zo_item {st b1 b2 : Bool} {z TI TO i1 i2 l1 l2 : Addr} {k : Nat} {xs ys : Array Value} {x y a c : Value} {Q : Value → Shared → Prop} (D : ZipApart z TI TO i1 i2 l1 l2)
    (qz : ZO st s.heap z TI TO .none) (qI : IsPair s.heap TI (.ref i1) (.ref i2)) (qO : IsPair s.heap TO a c)
    (q1 : IA b1 s.heap i1 l1 k) (q2 : IA b2 s.heap i2 l2 k) (r1 : SA b1 s.heap l1 xs) (r2 : SA b2 s.heap l2 ys) (hx : xs[k]? = some x) (hy : ys[k]? = some y)
    (hQ : ∀ h', ZO st h' z TI TO (rawInt s.heap.objs.size) → IsPair h' TO x y → IA b1 h' i1 l1 (k + 1) → IA b2 h' i2 l2 (k + 1) → IsPair h' s.heap.objs.size x y → h'.objs.size = s.heap.objs.size + 1 →
      (∀ c o, c ≠ z → c ≠ TO → c ≠ i1 → c ≠ i2 → s.heap.get? c = some o → h'.get? c = some o) → Q (.ref s.heap.objs.size) { s with heap := h' }) :
    wpAny (model prog w) A (Builtin.«zip.__next__» ⟨[.ref z], []⟩) (fun fin s' => ∃ v, fin = .done (.ret v) ∧ Q v s') E s := by
  show wpAny _ _ (field (.ref z) 2 >>= _) _ _ _
  refine wpAny_bind (wpAny_field qz rfl (x := .bool st) rfl ?_)
  show wpAny _ _ (field (.ref z) 3 >>= _) _ _ _
  refine wpAny_bind (wpAny_field qz rfl (x := .ref TI) rfl (wpAny_bind (wpAny_seqItems qI rfl ?_)))
  show wpAny _ _ (Builtin.SmallTypes.ownedTupleIsFree (.ref z) >>= _) _ _ _
  refine wpAny_bind ?_
  unfold Builtin.SmallTypes.ownedTupleIsFree
  refine wpAny_bind (wpAny_field qz rfl (x := .none) rfl (wpAny_pure ?_))
  simp only [if_true]
  refine wpAny_bind (wpAny_rule (wpAny_bind (wpAny_field qz rfl (x := .ref TO) rfl ?_)))
  refine wpAny_bind (wpAny_setField_rec qz (by simp) fun g1 z1 s1 => ?_)
  replace z1 : ZO st g1 z TI TO .ellipsis := z1
  refine wpAny_bind ?_
  simp only [List.zipIdx_cons, List.zipIdx_nil, List.forIn_cons, List.forIn_nil]
  refine wpAny_bind (wpAny_bind (wpAny_onRaise ?_))
  have step1 : ∀ {R : Option Value → Shared → Prop} {E' : Value → Shared → Prop}, (∀ h', IA b1 h' i1 l1 (k + 1) → Heap.SameBut i1 g1 h' → R (some x) { s with heap := h' }) →
      wpAny (model prog w) A (if (Value.bool st == .bool true) = true then Builtin.SmallTypes.nextOrEnd (.ref i1) else (do return some (← Builtin.SmallTypes.nextOf (.ref i1)))) R E' { s with heap := g1 } := by
    intro R E' hR
    cases st
    · exact wpAny_bind (nx_item (s := { s with heap := g1 }) (q1.ext s1.extBut D.i1z) (r1.ext s1.extBut D.l1z) hx fun h' a1 a2 => wpAny_pure (hR h' a1 a2))
    · exact ne_item (s := { s with heap := g1 }) (q1.ext s1.extBut D.i1z) (r1.ext s1.extBut D.l1z) hx hR
  refine step1 fun g2 i2' s2 => ?_
  have o2 : IsPair g2 TO a c := s2.extBut _ _ D.TOi1 (s1.extBut _ _ D.TOz qO)
  refine wpAny_bind (wpAny_seqItems o2 rfl ?_)
  refine wpAny_bind (wpAny_updateSeq_pair o2 fun g3 o3 s3 => ?_)
  replace o3 : IsPair g3 TO x c := o3
  refine wpAny_bind (wpAny_letGo (wpAny_pure ?_))
  refine wpAny_bind (wpAny_bind (wpAny_onRaise ?_))
  have j2 : IA b2 g3 i2 l2 k := ((q2.ext s1.extBut D.i2z).ext s2.extBut D.i12.symm).ext s3.extBut D.TOi2.symm
  have m2 : SA b2 g3 l2 ys := ((r2.ext s1.extBut D.l2z).ext s2.extBut D.l2i1).ext s3.extBut D.l2TO
  have step2 : ∀ {R : Option Value → Shared → Prop} {E' : Value → Shared → Prop}, (∀ h', IA b2 h' i2 l2 (k + 1) → Heap.SameBut i2 g3 h' → R (some y) { s with heap := h' }) →
      wpAny (model prog w) A (if (Value.bool st == .bool true) = true then Builtin.SmallTypes.nextOrEnd (.ref i2) else (do return some (← Builtin.SmallTypes.nextOf (.ref i2)))) R E' { s with heap := g3 } := by
    intro R E' hR
    cases st
    · exact wpAny_bind (nx_item (s := { s with heap := g3 }) j2 m2 hy fun h' a1 a2 => wpAny_pure (hR h' a1 a2))
    · exact ne_item (s := { s with heap := g3 }) j2 m2 hy hR
  refine step2 fun g4 i4 s4 => ?_
  have o4 : IsPair g4 TO x c := s4.extBut _ _ D.TOi2 o3
  refine wpAny_bind (wpAny_seqItems o4 rfl ?_)
  refine wpAny_bind (wpAny_updateSeq_pair o4 fun g5 o5 s5 => ?_)
  replace o5 : IsPair g5 TO x y := o5
  refine wpAny_bind (wpAny_letGo (wpAny_pure (wpAny_pure ?_)))
  refine wpAny_bind (wpAny_seqItems o5 rfl ?_)
  refine wpAny_bind (wpAny_newTuple ?_)
  have e5 : g5.objs.size = s.heap.objs.size := by rw [s5.1, s4.1, s3.1, s2.1, s1.1]
  have z5 : ZO st g5 z TI TO .ellipsis := s5.extBut _ _ D.TOz.symm (s4.extBut _ _ D.i2z.symm (s3.extBut _ _ D.TOz.symm (s2.extBut _ _ D.i1z.symm z1)))
  have kp : ∀ c o, c ≠ z → c ≠ TO → c ≠ i1 → c ≠ i2 → s.heap.get? c = some o → g5.get? c = some o := fun c o n1 n2 n3 n4 e =>
    s5.extBut _ _ n2 (s4.extBut _ _ n4 (s3.extBut _ _ n2 (s2.extBut _ _ n3 (s1.extBut _ _ n1 e))))
  have p1 : IA b1 g5 i1 l1 (k + 1) := ((i2'.ext s3.extBut D.TOi1.symm).ext s4.extBut D.i12).ext s5.extBut D.TOi1.symm
  have p2 : IA b2 g5 i2 l2 (k + 1) := i4.ext s5.extBut D.TOi2.symm
  have lz : z < g5.objs.size := Heap.lt_size z5
  show wpAny _ _ (Builtin.SmallTypes.ownedTupleHandOut (.ref z) (.ref g5.objs.size) >>= _) _ _ _
  refine wpAny_bind ?_
  unfold Builtin.SmallTypes.ownedTupleHandOut
  have z6 : ZO st (g5.push { cls := .type "tuple", data := .seq #[x, y] }) z TI TO .ellipsis := Heap.get?_push_of_some _ z5
  refine wpAny_bind (wpAny_setField_rec z6 (by simp) fun g7 z7 s7 => ?_)
  replace z7 : ZO st g7 z TI TO (rawInt g5.objs.size) := z7
  refine wpAny_setField_rec z7 (by simp) fun g8 z8 s8 => ?_
  replace z8 : ZO st g8 z TI TO (rawInt g5.objs.size) := z8
  have up : ∀ c o, c ≠ z → g5.get? c = some o → g8.get? c = some o := fun c o n1 e => s8.extBut _ _ n1 (s7.extBut _ _ n1 (Heap.get?_push_of_some _ e))
  have t8 : IsPair g8 g5.objs.size x y := s8.extBut _ _ (Nat.ne_of_gt lz) (s7.extBut _ _ (Nat.ne_of_gt lz) (Heap.get?_push_size _ rfl))
  have e8 : g8.objs.size = g5.objs.size + 1 := by rw [s8.1, s7.1, Heap.size_push]
  rw [e5] at z8 t8 e8
  refine wpAny_pure ⟨_, rfl, ?_⟩
  show Q (.ref g5.objs.size) _
  rw [e5]
  exact hQ g8 z8 (up _ _ D.TOz o5) (p1.put fun o e => up _ o D.i1z e) (p2.put fun o e => up _ o D.i2z e) t8 e8 fun c o n1 n2 n3 n4 e => up c o n1 (kp c o n1 n2 n3 n4 e)
theorem stop_at {α : Type} {Q : α → Shared → Prop} (hh : A.handled = none) (hE : ∀ h' e, (∀ c o, s.heap.get? c = some o → h'.get? c = some o) → (∃ o, h'.get? e = some o ∧ o.cls = .type "StopIteration") → E (.ref e) { s with heap := h' }) :
    wpAny (model prog w) A (Builtin.SmallTypes.stopIteration (α := α)) Q E s := by
  unfold Builtin.SmallTypes.stopIteration
  refine wpAny_bind ?_
  simp only [newExc, newTuple]
  refine wpAny_bind (wpAny_newObj_type ?_ (by size_fits))
  refine wpAny_bind (m := firstArgMember _ _) (wpAny_of_eq (a := Value.none) (by simp only [firstArgMember]; rfl) ?_)
  refine wpAny_newObj_type ?_ (by size_fits)
  simp only [raiseNew]
  refine wpAny_bind (wpAny_handled ?_)
  rw [hh]
  refine wpAny_bind (wpAny_pure (wpAny_throw ?_))
  exact hE _ _ (fun c o q => Heap.get?_push_of_some _ (Heap.get?_push_of_some _ q)) ⟨_, Heap.get?_push_size _ rfl, rfl⟩
theorem zo_end {st b1 b2 : Bool} {z TI TO i1 i2 l1 l2 : Addr} {k : Nat} {xs ys : Array Value} {a c : Value} {Q : Fin → Shared → Prop} (hh : A.handled = none) (D : ZipApart z TI TO i1 i2 l1 l2)
    (qz : ZO st s.heap z TI TO .none) (qI : IsPair s.heap TI (.ref i1) (.ref i2)) (qO : IsPair s.heap TO a c)
    (q1 : IA b1 s.heap i1 l1 k) (q2 : IA b2 s.heap i2 l2 k) (r1 : SA b1 s.heap l1 xs) (r2 : SA b2 s.heap l2 ys) (hx : xs[k]? = none) (hy : ys[k]? = none)
    (hE : ∀ h' e, (∀ c o, c ≠ z → c ≠ TO → c ≠ i1 → c ≠ i2 → s.heap.get? c = some o → h'.get? c = some o) → (∃ o, h'.get? e = some o ∧ o.cls = .type "StopIteration") → E (.ref e) { s with heap := h' }) :
    wpAny (model prog w) A (Builtin.«zip.__next__» ⟨[.ref z], []⟩) Q E s := by
  show wpAny _ _ (field (.ref z) 2 >>= _) _ _ _
  refine wpAny_bind (wpAny_field qz rfl (x := .bool st) rfl ?_)
  show wpAny _ _ (field (.ref z) 3 >>= _) _ _ _
  refine wpAny_bind (wpAny_field qz rfl (x := .ref TI) rfl (wpAny_bind (wpAny_seqItems qI rfl ?_)))
  show wpAny _ _ (Builtin.SmallTypes.ownedTupleIsFree (.ref z) >>= _) _ _ _
  refine wpAny_bind ?_
  unfold Builtin.SmallTypes.ownedTupleIsFree
  refine wpAny_bind (wpAny_field qz rfl (x := .none) rfl (wpAny_pure ?_))
  simp only [if_true]
  refine wpAny_bind (wpAny_rule (wpAny_bind (wpAny_field qz rfl (x := .ref TO) rfl ?_)))
  refine wpAny_bind (wpAny_setField_rec qz (by simp) fun g1 z1 s1 => ?_)
  replace z1 : ZO st g1 z TI TO .ellipsis := z1
  refine wpAny_bind ?_
  simp only [List.zipIdx_cons, List.zipIdx_nil, List.forIn_cons, List.forIn_nil]
  refine wpAny_bind (wpAny_bind (wpAny_onRaise ?_))
  have j1 : IA b1 g1 i1 l1 k := q1.ext s1.extBut D.i1z
  have m1 : SA b1 g1 l1 xs := r1.ext s1.extBut D.l1z
  cases st
  · show wpAny _ _ (Builtin.SmallTypes.nextOf (.ref i1) >>= _) _ _ _
    refine wpAny_bind (nx_end (s := { s with heap := g1 }) hh j1 m1 hx fun g2 e s2 he => ?_)
    obtain ⟨oe, hoe, hce⟩ := he
    have z2 : ZO false g2 z TI TO .ellipsis := s2 _ _ D.i1z.symm z1
    have ez : e ≠ z := fun x => by subst x; rw [z2] at hoe; cases hoe; simp at hce
    exact wpAny_setField_rec z2 (by simp) fun g3 _ s3 => hE g3 e (fun c o n1 _ n3 _ x => s3.extBut _ _ n1 (s2 _ _ n3 (s1.extBut _ _ n1 x))) ⟨oe, s3.extBut _ _ ez hoe, hce⟩
  · show wpAny _ _ (Builtin.SmallTypes.nextOrEnd (.ref i1)) _ _ _
    refine ne_end (s := { s with heap := g1 }) hh j1 m1 hx fun g2 s2 => ?_
    have z2 : ZO true g2 z TI TO .ellipsis := s2 _ _ D.i1z.symm z1
    refine wpAny_bind (wpAny_setField_rec z2 (by simp) fun g3 _ s3 => ?_)
    refine wpAny_bind ?_
    refine wpAny_bind (m := forIn ((List.drop 1 [Value.ref i1, Value.ref i2]).zipIdx 1) PUnit.unit _) ?_
    simp only [List.drop_succ_cons, List.drop_zero, List.zipIdx_cons, List.zipIdx_nil, List.forIn_cons, List.forIn_nil]
    have j2 : IA b2 g3 i2 l2 k := ((q2.ext s1.extBut D.i2z).ext s2 D.i12.symm).ext s3.extBut D.i2z
    have m2 : SA b2 g3 l2 ys := ((r2.ext s1.extBut D.l2z).ext s2 D.l2i1).ext s3.extBut D.l2z
    refine wpAny_bind (wpAny_bind (ne_end (s := { s with heap := g3 }) hh j2 m2 hy fun g4 s4 => ?_))
    refine wpAny_ite_false (by decide) (wpAny_pure (wpAny_pure (wpAny_bind (wpAny_rule ?_))))
    refine stop_at (s := { s with heap := g4 }) hh fun g5 e k5 he => hE g5 e (fun c o n1 _ n3 n4 x => k5 c o (s4 _ _ n4 (s3.extBut _ _ n1 (s2 _ _ n3 (s1.extBut _ _ n1 x))))) he
theorem pz_item {st b1 b2 : Bool} {z TI TO i1 i2 l1 l2 : Addr} {k : Nat} {xs ys : Array Value} {x y a c : Value} {Q : Option Value → Shared → Prop} (D : ZipApart z TI TO i1 i2 l1 l2)
    (qz : ZO st s.heap z TI TO .none) (qI : IsPair s.heap TI (.ref i1) (.ref i2)) (qO : IsPair s.heap TO a c)
    (q1 : IA b1 s.heap i1 l1 k) (q2 : IA b2 s.heap i2 l2 k) (r1 : SA b1 s.heap l1 xs) (r2 : SA b2 s.heap l2 ys) (hx : xs[k]? = some x) (hy : ys[k]? = some y)
    (hQ : ∀ h', ZO st h' z TI TO (rawInt s.heap.objs.size) → IsPair h' TO x y → IA b1 h' i1 l1 (k + 1) → IA b2 h' i2 l2 (k + 1) → IsPair h' s.heap.objs.size x y → h'.objs.size = s.heap.objs.size + 1 →
      (∀ c o, c ≠ z → c ≠ TO → c ≠ i1 → c ≠ i2 → s.heap.get? c = some o → h'.get? c = some o) → Q (some (.ref s.heap.objs.size)) { s with heap := h' }) :
    wpAny (model prog w) A (pyNext (.ref z)) Q E s := by
  have ty : s.TypeIs (.ref z) "zip" := ⟨_, qz, rfl⟩
  unfold pyNext
  exact wpAny_bind (wpAny_attempt (wpAny_callSpecial?_slot (name := Str.ofString "__next__") ty F.slot_zip_next
    (wpAny_call_entry F.slot_zip_next ty F.entry_zip_next
      (zo_item D qz qI qO q1 q2 r1 r2 hx hy fun h' a1 a2 a3 a4 a5 a6 a7 => wpAny_pure (hQ h' a1 a2 a3 a4 a5 a6 a7)) (F.args_zip_next_1 _))))
theorem pz_end {st b1 b2 : Bool} {z TI TO i1 i2 l1 l2 : Addr} {k : Nat} {xs ys : Array Value} {a c : Value} {Q : Option Value → Shared → Prop} (hh : A.handled = none) (D : ZipApart z TI TO i1 i2 l1 l2)
    (qz : ZO st s.heap z TI TO .none) (qI : IsPair s.heap TI (.ref i1) (.ref i2)) (qO : IsPair s.heap TO a c)
    (q1 : IA b1 s.heap i1 l1 k) (q2 : IA b2 s.heap i2 l2 k) (r1 : SA b1 s.heap l1 xs) (r2 : SA b2 s.heap l2 ys) (hx : xs[k]? = none) (hy : ys[k]? = none)
    (hQ : ∀ h', (∀ c o, c ≠ z → c ≠ TO → c ≠ i1 → c ≠ i2 → s.heap.get? c = some o → h'.get? c = some o) → Q none { s with heap := h' }) : wpAny (model prog w) A (pyNext (.ref z)) Q E s := by
  have ty : s.TypeIs (.ref z) "zip" := ⟨_, qz, rfl⟩
  unfold pyNext
  refine wpAny_bind (wpAny_attempt (wpAny_callSpecial?_slot (name := Str.ofString "__next__") ty F.slot_zip_next
    (wpAny_call_entry F.slot_zip_next ty F.entry_zip_next (zo_end hh D qz qI qO q1 q2 r1 r2 hx hy fun h' e hk he => ?_) (F.args_zip_next_1 _))))
  obtain ⟨o, ho, hc⟩ := he
  exact wpAny_bind (wpAny_isInstance (T := "StopIteration") (b := true) ⟨o, ho, hc⟩ isSubtype_stop (wpAny_pure (hQ _ hk)))
theorem go_zip {st : Bool} {elts : List Expr} {kk : Nat} {pos : Pos} {z TI TO T : Addr} {Q : Unit → Shared → Prop} (qz : ZO st s.heap z TI TO (rawInt T))
    (hQ : ∀ h', ZO st h' z TI TO .none → Heap.SameBut z s.heap h' → Q () { s with heap := h' }) :
    wpAny (model prog w) A (letOwnedTupleGo (.Tuple elts kk pos) (.ref z) (.ref T)) Q E s := by
  unfold letOwnedTupleGo
  refine wpAny_bind (wpAny_load qz ?_)
  refine wpAny_ite_true (c := _ = true) (by simp) ?_
  refine wpAny_bind (wpAny_rule ?_)
  exact wpAny_setField_rec qz (by simp) fun h' z' s' => hQ h' z' s'
theorem it_zip {st : Bool} {z TI TO : Addr} {f0 : Value} {Q : Value → Shared → Prop} (qz : ZO st s.heap z TI TO f0) (h : Q (.ref z) s) : wpAny (model prog w) A (pyIter (.ref z)) Q E s := by
  have ty : s.TypeIs (.ref z) "zip" := ⟨_, qz, rfl⟩
  refine wpAny_pyIter_slot ty F.slot_zip_iter (wpAny_call_entry F.slot_zip_iter ty F.entry_zip_iter ?_ (F.args_zip_iter_1 _))
  exact wpAny_pure ⟨_, rfl, "zip", _, ty, F.slot_zip_next.lookup, h⟩
end
def ito (b : Bool) (l : Addr) : Obj := match b with
  | true => { cls := .type "list_iterator", data := .fields #[.ref l, .int 0 0] }
  | false => { cls := .type "tuple_iterator", data := .fields #[.ref l, .int 0 0] }
abbrev zh1 (b1 : Bool) (h : Heap) (l1 : Addr) : Heap := h.push (ito b1 l1)
abbrev zh2 (b1 b2 : Bool) (h : Heap) (l1 l2 : Addr) : Heap := (zh1 b1 h l1).push (ito b2 l2)
abbrev zh3 (b1 b2 : Bool) (h : Heap) (l1 l2 : Addr) : Heap := (zh2 b1 b2 h l1 l2).push { cls := .type "tuple", data := .seq #[.ref h.objs.size, .ref (zh1 b1 h l1).objs.size] }
abbrev zh4 (b1 b2 : Bool) (h : Heap) (l1 l2 : Addr) : Heap := (zh3 b1 b2 h l1 l2).push { cls := .type "tuple", data := .seq #[.none, .none] }
abbrev zh5 (st b1 b2 : Bool) (h : Heap) (l1 l2 : Addr) : Heap := (zh4 b1 b2 h l1 l2).push { cls := .type "zip", data := .fields #[.none, .bool false, .bool st, .ref (zh2 b1 b2 h l1 l2).objs.size, .ref (zh3 b1 b2 h l1 l2).objs.size] }
theorem it_seq {prog : Program} {w : World} {A : Around} {E : Value → Shared → Prop} {s : Shared} {b : Bool} {l : Addr} {xs : Array Value} {Q : Value → Shared → Prop} (r : SA b s.heap l xs)
    (h : Q (.ref s.heap.objs.size) { s with heap := s.heap.push (ito b l) }) : wpAny (model prog w) A (pyIter (.ref l)) Q E s := by
  cases b
  · exact wpAny_pyIter_tuple r h
  · exact wpAny_pyIter_list r h
def zkw (st : Bool) : List (Str × Value) := match st with
  | true => [(Str.ofString "strict", .bool true)]
  | false => []
theorem zn_meets (st b1 b2 : Bool) (l1 l2 : Addr) (xs ys : Array Value) :
    Meets (Builtin.«zip.__new__» ⟨[.type "zip", .ref l1, .ref l2], zkw st⟩) (fun _ R s => SA b1 s.heap l1 xs ∧ SA b2 s.heap l2 ys ∧
      R (.ok (.ret (.ref (zh4 b1 b2 s.heap l1 l2).objs.size))) { s with heap := zh5 st b1 b2 s.heap l1 l2 }) :=
  .of_wp fun prog w A R s h => by
    obtain ⟨hp, g, d, tk, os⟩ := s; obtain ⟨r1, r2, h⟩ := h
    have hsub := sub_zip
    have y1 : SA b1 (Shared.heap ⟨hp, g, d, tk, os⟩) l1 xs := r1
    have y2 : SA b2 (Shared.heap ⟨hp.push (ito b1 l1), g, d, tk, os⟩) l2 ys := by
      cases b2
      · exact Heap.IsTuple.push r2 _
      · exact Heap.IsList.push r2 _
    cases st
    · unfold zkw
      wp_walk using it_seq y1, it_seq y2
      exact ⟨_, rfl, h⟩
    · unfold zkw
      wp_walk using it_seq y1, it_seq y2
      exact ⟨_, rfl, h⟩
section
variable {prog : Program} {w : World} {A : Around} {E : Value → Shared → Prop} {s : Shared}
theorem zk_type (st : Bool) (a b : Value) : checkTypeCall "zip" ⟨[a, b], zkw st⟩ = pure () := by cases st <;> kernel_rfl
theorem zk_new (st : Bool) (a b : Value) : checkBuiltinCall "zip.__new__" ⟨[.type "zip", a, b], zkw st⟩ = pure () := by cases st <;> kernel_rfl
theorem zk_init (st : Bool) (a b c : Value) : argsOk "object.__init__" ⟨[a, b, c], zkw st⟩ := by
  cases st
  · exact F.args_object_init_3 a b c
  · unfold argsOk; kernel_rfl
theorem call_zo {st b1 b2 : Bool} {l1 l2 : Addr} {xs ys : Array Value} {Q : Value → Shared → Prop} (r1 : SA b1 s.heap l1 xs) (r2 : SA b2 s.heap l2 ys)
    (h : ∀ h', ZO st h' (s.heap.objs.size + 4) (s.heap.objs.size + 2) (s.heap.objs.size + 3) .none → IsPair h' (s.heap.objs.size + 2) (.ref s.heap.objs.size) (.ref (s.heap.objs.size + 1)) →
      IsPair h' (s.heap.objs.size + 3) .none .none → IA b1 h' s.heap.objs.size l1 0 → IA b2 h' (s.heap.objs.size + 1) l2 0 → h'.objs.size = s.heap.objs.size + 5 →
      (∀ c o, s.heap.get? c = some o → h'.get? c = some o) → Q (.ref (s.heap.objs.size + 4)) { s with heap := h' }) :
    wpAny (model prog w) A (call (.type "zip") [.ref l1, .ref l2] (zkw st)) Q E s := by
  refine callType_newKw F.called_zip (by decide) (zk_type st _ _) (zk_new st _ _) (fun obj => zk_init st obj _ _) F.entry_zip_new (zn_meets st b1 b2 l1 l2 xs ys) ⟨r1, r2, ?_⟩
  have n1 : (zh1 b1 s.heap l1).objs.size = s.heap.objs.size + 1 := Heap.size_push ..
  have n2 : (zh2 b1 b2 s.heap l1 l2).objs.size = s.heap.objs.size + 2 := by rw [Heap.size_push, n1]
  have n3 : (zh3 b1 b2 s.heap l1 l2).objs.size = s.heap.objs.size + 3 := by rw [Heap.size_push, n2]
  have n4 : (zh4 b1 b2 s.heap l1 l2).objs.size = s.heap.objs.size + 4 := by rw [Heap.size_push, n3]
  have n5 : (zh5 st b1 b2 s.heap l1 l2).objs.size = s.heap.objs.size + 5 := by rw [Heap.size_push, n4]
  have u5 : (zh5 st b1 b2 s.heap l1 l2).get? (zh4 b1 b2 s.heap l1 l2).objs.size = some _ := Heap.get?_push_size _ rfl
  have u4 : (zh5 st b1 b2 s.heap l1 l2).get? (zh3 b1 b2 s.heap l1 l2).objs.size = some _ := Heap.get?_push_of_some _ (Heap.get?_push_size _ rfl)
  have u3 : (zh5 st b1 b2 s.heap l1 l2).get? (zh2 b1 b2 s.heap l1 l2).objs.size = some _ := Heap.get?_push_of_some _ (Heap.get?_push_of_some _ (Heap.get?_push_size _ rfl))
  have u2 : (zh5 st b1 b2 s.heap l1 l2).get? (zh1 b1 s.heap l1).objs.size = some (ito b2 l2) := Heap.get?_push_of_some _ (Heap.get?_push_of_some _ (Heap.get?_push_of_some _ (Heap.get?_push_size _ (by cases b2 <;> rfl))))
  have u1 : (zh5 st b1 b2 s.heap l1 l2).get? s.heap.objs.size = some (ito b1 l1) := Heap.get?_push_of_some _ (Heap.get?_push_of_some _ (Heap.get?_push_of_some _ (Heap.get?_push_of_some _ (Heap.get?_push_size _ (by cases b1 <;> rfl)))))
  show _ ∧ _
  rw [n2, n3, n4] at u5
  rw [n1, n2] at u3
  rw [n3] at u4
  rw [n1] at u2
  rw [n4]
  exact ⟨⟨_, u5, rfl⟩, h _ u5 u3 u4 (by cases b1 <;> exact ⟨_, u1, rfl, rfl⟩) (by cases b2 <;> exact ⟨_, u2, rfl, rfl⟩) n5 fun c o x =>
    Heap.get?_push_of_some _ (Heap.get?_push_of_some _ (Heap.get?_push_of_some _ (Heap.get?_push_of_some _ (Heap.get?_push_of_some _ x))))⟩
end
end Pv

namespace Pv
open PySem PySem.Spec PyProof.Rows L2
def SqG (b : Bool) (K : PySem.W.Frag) (H : Hp) (a : Addr) (xs : List V) : Prop := match b with
  | true => SqL K H a xs
  | false => SqT K H a xs
section
variable {X : Cx} {pins : List (Addr × Obj)} {σ : L2.St} {H : Hp} {s : Shared} {b : Bool} {a : Addr} {xs ys : List V}
theorem sg_heap (I : Inv X pins σ H s) (h : SqG b X.K H a xs) : ∃ its, Vals xs its ∧ SA b s.heap a its.toArray ∧ xs.length ≤ sizeLine := by
  cases b
  · obtain ⟨its, rv, p, z⟩ := I.tuple h; exact ⟨its, rv, p, z⟩
  · obtain ⟨its, rv, p, z⟩ := I.list h; exact ⟨its, rv, p.isList, z⟩
theorem sg_inj (I : Inv X pins σ H s) (h : SqG b X.K H a xs) (h' : SqG b X.K H a ys) : xs = ys := by
  cases b
  · exact I.tuple_inj h h'
  · exact I.list_inj h h'
theorem SA.lt {h : Heap} {xs : Array Value} (r : SA b h a xs) : a < h.objs.size := by
  cases b
  · obtain ⟨o, e, _⟩ := r; exact Heap.lt_size e
  · obtain ⟨o, e, _⟩ := r; exact Heap.lt_size e
end
def ItG (b1 b2 : Bool) (K : PySem.W.Frag) (a c : Addr) : L2.It :=
  ⟨fun i H => ∃ (xs ys : List V) (x y : V), SqG b1 K H a xs ∧ SqG b2 K H c ys ∧ xs[i]? = some x ∧ ys[i]? = some y,
    fun i H v H' => ∃ T x y, v = .ref T ∧ H T = none ∧ H' = upd H T (.tup [x, y]) ∧ (∀ xs, SqG b1 K H a xs → xs[i]? = some x) ∧ ∀ ys, SqG b2 K H c ys → ys[i]? = some y,
    fun i H => ∃ xs ys : List V, SqG b1 K H a xs ∧ SqG b2 K H c ys ∧ xs.length ≤ i ∧ ys.length ≤ i⟩
theorem turn_zo {st b1 b2 : Bool} {P : Program} {w : World} {K : PySem.W.Frag} {elts : List Expr} {kk : Nat} {tpos : Pos} {a b z TI TO i1 i2 : Addr} (D : ZipApart z TI TO i1 i2 a b) :
    Turn P w K (.Tuple elts kk tpos) (ItG b1 b2 K a b) [z, TI, TO, i1, i2] z (fun i h => ZO st h z TI TO .none ∧ IsPair h TI (.ref i1) (.ref i2) ∧ (∃ x y, IsPair h TO x y) ∧ IA b1 h i1 a i ∧ IA b2 h i2 b i) where
  mem := by simp
  obj := fun i h ts c hc => by
    obtain ⟨qz, qI, ⟨x, y, qO⟩, q1, q2⟩ := ts
    obtain ⟨o1, e1, f1, d1⟩ := q1.obj
    obtain ⟨o2, e2, f2, d2⟩ := q2.obj
    have e' : c = z ∨ c = TI ∨ c = TO ∨ c = i1 ∨ c = i2 := by simpa using hc
    rcases e' with q | q | q | q | q
    · rw [q]; exact ⟨_, qz, fun v q => nomatch q⟩
    · rw [q]; exact ⟨_, qI, fun v q => nomatch q⟩
    · rw [q]; exact ⟨_, qO, fun v q => nomatch q⟩
    · rw [q]; exact ⟨o1, e1, fun v q => by rw [d1] at q; cases q⟩
    · rw [q]; exact ⟨o2, e2, fun v q => by rw [d2] at q; cases q⟩
  keep := fun i h h' ts k => by
    obtain ⟨qz, qI, ⟨x, y, qO⟩, q1, q2⟩ := ts
    exact ⟨k z (by simp) _ qz, k TI (by simp) _ qI, ⟨x, y, k TO (by simp) _ qO⟩, q1.put fun o q => k i1 (by simp) o q, q2.put fun o q => k i2 (by simp) o q⟩
  item := by
    intro X hP hw hK hc i pins s σ H E I hf ts hg
    subst hP hw hK
    obtain ⟨qz, qI, ⟨x0, y0, qO⟩, q1, q2⟩ := ts
    obtain ⟨xs, ys, x, y, hqx, hqy, hx, hy⟩ := hg
    obtain ⟨its, rv, p, _⟩ := sg_heap I hqx
    obtain ⟨its2, rv2, p2, _⟩ := sg_heap I hqy
    obtain ⟨u, hu, ru⟩ := rv.get hx
    obtain ⟨u2, hu2, ru2⟩ := rv2.get hy
    have lz : z < s.heap.objs.size := Heap.lt_size qz
    refine pz_item D qz qI qO q1 q2 p p2 (x := u) (y := u2) (by simpa using hu) (by simpa using hu2) fun h' z' o' k1 k2 hT hsz hk => ?_
    refine ⟨_, rfl, go_zip (s := { s with heap := h' }) z' fun g z'' sb => ?_⟩
    have hT2 : g.get? s.heap.objs.size = some { cls := .type "tuple", data := .seq #[u, u2] } := (sb.2 _ (Nat.ne_of_gt lz)).trans hT
    have new : ObjOk X.prog X.w (upd H s.heap.objs.size (.tup [x, y])) g s.heap.objs.size (.tup [x, y]) :=
      ⟨by show 2 ≤ sizeLine; decide, [u, u2], .cons ru (.cons ru2 .nil), ⟨_, hT2, rfl, _, rfl⟩⟩
    have I1 : Inv X pins σ (upd H s.heap.objs.size (.tup [x, y])) { s with heap := g } :=
      I.turnedNew (t' := s.toks) (ch := [z, TI, TO, i1, i2]) (fun c o hb q => (sb.2 c (fun q' => hb (by simp [q']))).trans (hk c o (fun q' => hb (by simp [q'])) (fun q' => hb (by simp [q'])) (fun q' => hb (by simp [q'])) (fun q' => hb (by simp [q'])) q)) hf (Nat.le_refl _) new
    refine ⟨.ref s.heap.objs.size, _, I1, rfl, ⟨_, x, y, rfl, I.hok.fresh (Nat.le_refl _), rfl, fun l hl => by rw [sg_inj I hl hqx]; exact hx, fun l hl => by rw [sg_inj I hl hqy]; exact hy⟩, ⟨z'', ?_, ⟨u, u2, ?_⟩, ?_, ?_⟩, fun c hcm => ?_⟩
    · exact (sb.2 _ D.TIz).trans (hk _ _ D.TIz D.TITO D.TIi1 D.TIi2 qI)
    · exact (sb.2 _ D.TOz).trans o'
    · exact k1.put fun o q => (sb.2 _ D.i1z).trans q
    · exact k2.put fun o q => (sb.2 _ D.i2z).trans q
    · have hlt : c < s.heap.objs.size := by
        have e' : c = z ∨ c = TI ∨ c = TO ∨ c = i1 ∨ c = i2 := by simpa using hcm
        rcases e' with q | q | q | q | q
        · rw [q]; exact lz
        · rw [q]; exact Heap.lt_size qI
        · rw [q]; exact Heap.lt_size qO
        · rw [q]; exact q1.lt
        · rw [q]; exact q2.lt
      rw [upd_ne (Nat.ne_of_lt hlt)]
      exact (hf c hcm).1
  done := by
    intro X hP hw hK hc i pins s σ H E I hf ts hg
    subst hP hw hK
    obtain ⟨qz, qI, ⟨x0, y0, qO⟩, q1, q2⟩ := ts
    obtain ⟨xs, ys, hqx, hqy, n1, n2⟩ := hg
    obtain ⟨its, rv, p, _⟩ := sg_heap I hqx
    obtain ⟨its2, rv2, p2, _⟩ := sg_heap I hqy
    have l1 := rv.length
    have l2 := rv2.length
    exact pz_end (I.ok.hd hc) D qz qI qO q1 q2 p p2 (by simp; omega) (by simp; omega) fun h' hk => ⟨rfl, I.turnedL (t' := s.toks) (ch := [z, TI, TO, i1, i2]) (fun c o hb q =>
      hk c o (fun q' => hb (by simp [q'])) (fun q' => hb (by simp [q'])) (fun q' => hb (by simp [q'])) (fun q' => hb (by simp [q'])) q) hf⟩
  self := fun A i s Q E ts h => it_zip ts.1 h
def iZipG (K : PySem.W.Frag) (ta : TA) : TI := fun σ H R => ta σ H fun vs H1 => ∃ b1 b2 a c xs ys, vs = [.ref a, .ref c] ∧ SqG b1 K H1 a xs ∧ SqG b2 K H1 c ys ∧ R (ItG b1 b2 K a c) H1
section
variable {M : Model} {A : Around} {E : Value → Shared → Prop} {s : Shared} {env : PySem.Env}
theorem cw_typeKw {pos : Pos} {T : String} {first : List Value} {args : List (Bool × Sem Value)} {keywords : List (Option Str × Sem Value)} {Q : Value → Shared → Prop} (hp : args.any (·.1) = false) (hk : keywords.any (·.1.isNone) = false)
    (h : wpAny M A (evalArgs (.type T) true args keywords) (fun a s₁ => wpAny M A (call (.type T) (first ++ a.pos) a.kw) Q E s₁) E s) : wpAny M A (callWith pos (.type T) first args keywords) Q E s := by
  unfold callWith
  refine wpAny_bind (wpAny_holding (wpAny_mono h (fun a s1 h1 => wpAny_bind (wpAny_standAt ?_)) fun _ _ x => x))
  simp only [hp, hk, Bool.or_false]
  exact wpAny_bind (wpAny_pure (wpAny_bind (wpAny_mono h1 (fun r s2 hr => wpAny_bind (wpAny_holding (wpAny_point (wpAny_pure hr)))) fun _ _ x => x)))
theorem cw_typeK {pos : Pos} {T : String} {e : Expr} {rest : List Expr} {kws : List Keyword} {Q : Value → Shared → Prop}
    (h : wpAny M A (spliced (backTo pos (starEach (e :: rest) env))) (fun vs s₁ => wpAny M A (evalAll ((backToKw pos (keywordEach kws env)).map (·.2)))
      (fun kvs s₂ => wpAny M A (call (.type T) vs (((backToKw pos (keywordEach kws env)).filterMap (·.1)).zip kvs)) Q E s₂) E s₁) E s)
    (he : backTo pos (starEach (e :: rest) env) = (false, eval e env) :: backTo pos (starEach rest env)) (hp : (backTo pos (starEach (e :: rest) env)).any (·.1) = false)
    (hall : (backToKw pos (keywordEach kws env)).all (·.1.isSome) = true) (hk : (backToKw pos (keywordEach kws env)).any (·.1.isNone) = false) :
    wpAny M A (callWith pos (.type T) [] (backTo pos (starEach (e :: rest) env)) (backToKw pos (keywordEach kws env))) Q E s := by
  refine cw_typeKw hp hk ?_
  rw [he] at h ⊢
  exact evalArgs_kwB hall h
end
section
variable {X : Cx} {e e2 : Expr} {ta : TA} {p pos tpos kpos vpos : Pos} {elts : List Expr} {kk kn : Nat}
theorem zip_goes {st : Bool} {pins : List (Addr × Obj)} {s1 : Shared} {σ : L2.St} {H1 : Hp} {R : L2.It → Hp → Prop} {vs : List V} {us : List Value} (I1 : Inv X pins σ H1 s1) (r1 : Vals vs us)
    (q1 : ∃ b1 b2 a c xs ys, vs = [.ref a, .ref c] ∧ SqG b1 X.K H1 a xs ∧ SqG b2 X.K H1 c ys ∧ R (ItG b1 b2 X.K a c) H1) :
    wpAny (model X.prog X.w) X.A (call (.type "zip") us (zkw st)) (fun v s2 => wpAny (model X.prog X.w) X.A (pyIter v) (fun itv s3 => PIE X pins σ (.Tuple elts kk tpos) R itv s3) X.xe s2) X.xe s1 := by
  obtain ⟨b1, b2, a, c, xs, ys, rfl, hqx, hqy, q⟩ := q1
  cases r1 with
  | cons r rr =>
    cases rr with
    | cons r' rr =>
      cases rr
      cases r
      cases r'
      have fresh : ∀ c, c ∈ [s1.heap.objs.size + 4, s1.heap.objs.size + 2, s1.heap.objs.size + 3, s1.heap.objs.size, s1.heap.objs.size + 1] → FpOk X pins H1 c := fun c hcm => by
        have hle : s1.heap.objs.size ≤ c := by
          simp only [List.mem_cons, List.not_mem_nil, or_false] at hcm
          rcases hcm with z | z | z | z | z
          · rw [z]; exact Nat.le_add_right _ _
          · rw [z]; exact Nat.le_add_right _ _
          · rw [z]; exact Nat.le_add_right _ _
          · rw [z]; exact Nat.le_refl _
          · rw [z]; exact Nat.le_add_right _ _
        exact I1.fpOk hle (I1.hok.fresh hle)
      obtain ⟨its, rv, p1, _⟩ := sg_heap I1 hqx
      obtain ⟨its2, rv2, p2, _⟩ := sg_heap I1 hqy
      refine call_zo (st := st) p1 p2 fun h' hz hI hO k1 k2 hsz hk => it_zip hz ?_
      have I2 : Inv X pins σ H1 { s1 with heap := h' } := I1.kept (t' := s1.toks) hk
      exact ⟨s1.heap.objs.size + 4, [s1.heap.objs.size + 4, s1.heap.objs.size + 2, s1.heap.objs.size + 3, s1.heap.objs.size, s1.heap.objs.size + 1], _, _, H1, rfl, I2, turn_zo (PySem.W.ktu_apart s1.heap.objs.size a c p1.lt p2.lt), ⟨hz, hI, ⟨_, _, hO⟩, k1, k2⟩, fresh, q⟩
theorem pi_zipG (hg : Gl X "zip") (hm : X.mg "zip" = none) (ha : PA X [e, e2] ta) (hs : starEach [e, e2] X.env = (false, eval e X.env) :: starEach [e2] X.env) (hpl : (backTo pos (starEach [e2] X.env)).any (·.1) = false) :
    PI X (.Tuple elts kk tpos) (.Call (.Name "zip" p) [e, e2] [] pos) (iZipG X.K ta) := by
  refine ⟨fun pins s σ H R I h => ?_⟩
  exact Call_ (ld_blt I hg hm PyProof.Rows.boot_zip (PyProof.Rows.callWith_type1 (thn (ha.run pos pins s σ H _ I h) fun us s1 ⟨vs, H1, I1, r1, q1⟩ => zip_goes (st := false) I1 r1 q1) hs hpl))
theorem pi_zipS (hg : Gl X "zip") (hm : X.mg "zip" = none) (ha : PA X [e, e2] ta) (hs : starEach [e, e2] X.env = (false, eval e X.env) :: starEach [e2] X.env) (hpl : (backTo pos (starEach [e, e2] X.env)).any (·.1) = false) :
    PI X (.Tuple elts kk tpos) (.Call (.Name "zip" p) [e, e2] [⟨some "strict", .Constant (.bool true) kn vpos, kpos⟩] pos) (iZipG X.K ta) := by
  refine ⟨fun pins s σ H R I h => ?_⟩
  refine wpAny_Call_Name_kw (ld_blt I hg hm PyProof.Rows.boot_zip ?_)
  refine cw_typeK (thn (ha.run pos pins s σ H _ I h) fun us s1 ⟨vs, H1, I1, r1, q1⟩ => ?_) (by rw [hs]; rfl) hpl rfl rfl
  refine kws_cons ?_
  refine wpAny_Constant_bool ?_
  exact kws_nil (zip_goes (st := true) I1 r1 q1)
end
end Pv

namespace Pv
open PySem L2

theorem lim_eq : lim = sizeLine := by rw [sizeLine_eq]; rfl

/-- what is wanted of a value; of a new list -/
def PV (K : PySem.W.Frag) (Z : Addr → Prop) (ph : List Addr) (H : Hp) (m' : M) (z : D) (Q : VK) : Prop :=
  ∀ ph' H' u, Sx ph H ph' H' → Wd K Z ph' m' H' → RepV K Z ph' H' u z → Q u H'
def NP (K : PySem.W.Frag) (Z : Addr → Prop) (ph : List Addr) (H : Hp) (m' : M) (ds : List D) (Q : VK) : Prop :=
  ∀ ph' H' p vs, H p = none → H' p = some (.lst vs) → p ∉ ph' → Sx ph H ph' H' → Wd K (Zp Z p) ph' m' H' → RepVs K (Zp Z p) ph' H' vs ds → Q (.ref p) H'
section
variable {K : PySem.W.Frag} {Z : Addr → Prop} {ph ph' : List Addr} {H H' : Hp} {m m' : M} {v : V} {d z : D} {vs : List V} {ds : List D} {σ : L2.St} {env : Env} {Q : VK}
theorem Wd.nz (w : Wd K Z ph m H) {p : Addr} (h : H p = none) : ¬ Z p := fun q => by
  obtain ⟨o, e⟩ := w.zin p q
  rw [h] at e; cases e
theorem Wd.np (w : Wd K Z ph m H) {p : Addr} (h : H p = none) : p ∉ ph := fun q => by
  obtain ⟨o, e⟩ := w.lst q
  rw [h] at e; cases e
theorem PV.np (w : Wd K Z ph m H) (q : PV K Z ph H m' (.lst ds) Q) : NP K Z ph H m' ds Q := fun ph' H' p vs h1 h2 h3 s w' r =>
  q ph' H' (.ref p) s w'.unz (.lst h2 h3 (w.nz h1) r.unz)
/-- a new list is laid -/
theorem NP.upd (w : Wd K Z ph m H) {p : Addr} (h : H p = none) (r : RepVs K Z ph H vs ds) (q : NP K Z ph H m ds Q) : Q (.ref p) (L2.upd H p (.lst vs)) := by
  have s : Sx ph H ph (L2.upd H p (.lst vs)) := Sx.upd h
  refine q ph _ p vs h upd_same (w.np h) s ?_ ((r.zp h).mono s)
  have w' := w.new (o := .lst vs) h
  refine ⟨w'.len, w'.nd, fun l xs e => ?_, fun a ha => ?_⟩
  · obtain ⟨a, us, e1, e2, r⟩ := w.obj l xs e
    exact ⟨a, us, e1, by rw [upd_ne (ne_of_none e2 h)]; exact e2, (r.zp h).mono s⟩
  · rcases ha with rfl | ha
    · exact ⟨_, upd_same⟩
    · exact w'.zin a ha
theorem PV.tup (w : Wd K Z ph m H) {p : Addr} (h : H p = none) (r : RepVs K Z ph H vs ds) (q : PV K Z ph H m (.tup ds) Q) : Q (.ref p) (L2.upd H p (.tup vs)) :=
  q ph _ (.ref p) (Sx.upd h) (w.new h) (.tup (SqT.of upd_same) (r.mono (Sx.upd h)))
theorem PV.here (w : Wd K Z ph m H) (r : RepV K Z ph H v z) (q : PV K Z ph H m z Q) : Q v H := q ph H v Sx.refl w r
/-- what is read as a list -/
theorem rd_lst (w : Wd K Z ph m H) (r : RepV K Z ph H v d) (h : deref m d = .lst ds) : ∃ a vs, v = .ref a ∧ H a = some (.lst vs) ∧ RepVs K Z ph H vs ds := by
  cases r with
  | lst h1 n z r => simp only [deref] at h; cases h; exact ⟨_, _, rfl, h1, r⟩
  | @ref a l h1 =>
    simp only [deref] at h
    split at h
    · rename_i xs e
      cases h
      obtain ⟨vs, h2, r⟩ := w.at e h1
      exact ⟨a, vs, rfl, h2, r⟩
    · cases h
  | _ => simp [deref] at h
theorem rd_tup (r : RepV K Z ph H v d) (h : deref m d = .tup ds) : ∃ a vs, v = .ref a ∧ SqT K H a vs ∧ RepVs K Z ph H vs ds := by
  cases r with
  | tup h1 r => simp only [deref] at h; cases h; exact ⟨_, _, rfl, h1, r⟩
  | ref h1 =>
    simp only [deref] at h
    split at h <;> cases h
  | _ => simp [deref] at h
theorem rd_frz (r : RepV K Z ph H v d) (h : deref m d = .frz ds) : ∃ a vs, v = .ref a ∧ FrzL K H a vs ∧ RepVs K Z ph H vs ds := by
  cases r with
  | frz h1 r => simp only [deref] at h; cases h; exact ⟨_, _, rfl, h1, r⟩
  | ref h1 =>
    simp only [deref] at h
    split at h <;> cases h
  | _ => simp [deref] at h
theorem rd_str {x : Str} (r : RepV K Z ph H v d) (h : deref m d = .str x) : v = .str x := by
  cases r with
  | str y => simp only [deref] at h; cases h; rfl
  | ref h1 =>
    simp only [deref] at h
    split at h <;> cases h
  | _ => simp [deref] at h
end

/-! ## operators -/
def rG (K : PySem.W.Frag) (g : M → D → D → Option D) : R2 := fun v w H Q => ∃ Z ph m x y z, Wd K Z ph m H ∧ RepV K Z ph H v x ∧ RepV K Z ph H w y ∧ g m x y = some z ∧ PV K Z ph H m z Q
def rGN (K : PySem.W.Frag) (g : M → D → D → Option D) : R2 := fun v w H Q => ∃ Z ph m x y ds, Wd K Z ph m H ∧ RepV K Z ph H v x ∧ RepV K Z ph H w y ∧ g m x y = some (.lst ds) ∧ NP K Z ph H m ds Q
section
variable {X : Cx}
theorem or_addN : OpR X (binaryOp .Add) (rGN X.K addD) := by
  intro pins s σ H v w u1 u2 Q I r1 r2 h
  obtain ⟨Z, ph, m, x, y, ds, wd, rx, ry, hz, q⟩ := h
  unfold addD at hz
  split at hz
  · cases hz
  · split at hz <;> cases hz
  · split at hz <;> cases hz
  · split at hz
    · rename_i a b ea eb
      split at hz
      · rename_i hl
        cases hz
        obtain ⟨p, vs, rfl, h1, q1⟩ := rd_lst wd rx ea
        obtain ⟨p', ws, rfl, h2, q2⟩ := rd_lst wd ry eb
        refine op_cat pins s σ H _ _ _ _ Q I r1 r2 ⟨p, p', vs, ws, rfl, rfl, h1, h2, ?_, fun l hl => q.upd wd hl (q1.append q2)⟩
        rw [q1.len, q2.len, ← lim_eq]; exact hl
      · cases hz
    · cases hz
theorem or_add : OpR X (binaryOp .Add) (rG X.K addD) := by
  intro pins s σ H v w u1 u2 Q I r1 r2 h
  obtain ⟨Z, ph, m, x, y, z, wd, rx, ry, hz, q⟩ := h
  have hz0 := hz
  unfold addD at hz
  split at hz
  · cases hz; cases rx; cases ry
    exact op_add pins s σ H _ _ _ _ Q I r1 r2 ⟨_, _, rfl, rfl, q.here wd (.int _)⟩
  · split at hz
    · rename_i hl
      cases hz; cases rx; cases ry
      exact op_add_str pins s σ H _ _ _ _ Q I r1 r2 ⟨_, _, rfl, rfl, by rw [← lim_eq]; exact hl, q.here wd (.str _)⟩
    · cases hz
  · split at hz
    · rename_i hl
      cases hz
      cases rx with
      | tup h1 q1 =>
        cases ry with
        | tup h2 q2 =>
          refine op_catA pins s σ H _ _ _ _ Q I r1 r2 ⟨_, _, _, _, rfl, rfl, h1, h2, by rw [q1.len, q2.len, ← lim_eq]; exact hl, fun e => ?_, fun _ e => ?_, fun _ _ p hp => q.tup wd hp (q1.append q2)⟩
          · subst e
            cases q1
            exact q.here wd (.tup h2 q2)
          · subst e
            cases q2
            rw [List.append_nil] at q
            exact q.here wd (.tup h1 q1)
    · cases hz
  · split at hz
    · rename_i a b ea eb
      split at hz
      · rename_i hl
        cases hz
        exact or_addN pins s σ H v w u1 u2 Q I r1 r2 ⟨Z, ph, m, _, _, _, wd, rx, ry, hz0, q.np wd⟩
      · cases hz
    · cases hz
theorem mulOk_ok {i j : Int} (h : mulOk i j = true) : CMul i j ∨ CMulW i j := by
  simp only [mulOk, small, Bool.or_eq_true, Bool.and_eq_true, decide_eq_true_eq] at h
  rcases h with (h | h) | h
  · exact .inl (.inl h)
  · exact .inl (.inr h)
  · exact .inr h
theorem mulT_run {pins : List (Addr × Obj)} {s : Shared} {σ : L2.St} {H : Hp} {v w : V} {u1 u2 : Value} {Q : VK} {Z : Addr → Prop} {ph : List Addr} {m : M} {x : D} {a : List D} {k : Int} (I : Inv X pins σ H s) (r1 : RelV v u1) (r2 : RelV w u2) (wd : Wd X.K Z ph m H) (rx : RepV X.K Z ph H v x) (ea : deref m x = .tup a) (ry : RepV X.K Z ph H w (.int k)) (hl : (-1000 ≤ k ∧ k ≤ 1000) ∧ a.length ≤ 1000) (q : PV X.K Z ph H m (.tup (List.replicate k.toNat a).flatten) Q) :
    wpAny (model X.prog X.w) X.A (binaryOp .Mult u1 u2) (EP X pins σ Q) X.xe s := by
  cases ry
  obtain ⟨p, vs, rfl, h1, q1⟩ := rd_tup rx ea
  by_cases c1 : vs = [] ∨ k = 1
  · refine op_repS pins s σ H _ _ _ _ Q I r1 r2 ⟨p, k, vs, rfl, rfl, h1, by omega, by omega, c1, q.here wd (.tup h1 ?_)⟩
    rcases c1 with rfl | rfl
    · cases q1; simpa using RepVs.nil
    · simpa using q1
  · have n1 : vs ≠ [] := fun e => c1 (.inl e)
    have n2 : k ≠ 1 := fun e => c1 (.inr e)
    by_cases c2 : k ≤ 0
    · refine op_repZ pins s σ H _ _ _ _ Q I r1 r2 ⟨p, k, vs, rfl, rfl, h1, by omega, c2, n1, fun l hl => q.tup wd hl ?_⟩
      rw [show k.toNat = 0 by omega]
      exact .nil
    · exact op_repT pins s σ H _ _ _ _ Q I r1 r2 ⟨p, k, vs, rfl, rfl, h1, n1, by omega, by omega, by rw [q1.len]; exact hl.2, fun l hl => q.tup wd hl (q1.rep _)⟩
theorem or_mulN : OpR X (binaryOp .Mult) (rGN X.K mulD) := by
  intro pins s σ H v w u1 u2 Q I r1 r2 h
  obtain ⟨Z, ph, m, x, y, ds, wd, rx, ry, hz, q⟩ := h
  unfold mulD at hz
  split at hz
  · split at hz <;> cases hz
  · split at hz
    · rename_i a ea
      split at hz
      · rename_i hl
        simp only [Bool.and_eq_true, decide_eq_true_eq] at hl
        cases hz
        cases ry
        obtain ⟨p, vs, rfl, h1, q1⟩ := rd_lst wd rx ea
        exact op_rep pins s σ H _ _ _ _ Q I r1 r2 ⟨p, _, vs, rfl, rfl, h1, hl.1.1.2, hl.1.2, by rw [q1.len, ← lim_eq]; exact hl.2, fun l hl => q.upd wd hl (q1.rep _)⟩
      · cases hz
    · split at hz <;> cases hz
    · cases hz
  · cases hz
theorem or_mul : OpR X (binaryOp .Mult) (rG X.K mulD) := by
  intro pins s σ H v w u1 u2 Q I r1 r2 h
  obtain ⟨Z, ph, m, x, y, z, wd, rx, ry, hz, q⟩ := h
  have hz0 := hz
  unfold mulD at hz
  split at hz
  · split at hz
    · rename_i hm
      cases hz; cases rx; cases ry
      rcases mulOk_ok hm with hm | hm
      · exact op_mul pins s σ H _ _ _ _ Q I r1 r2 ⟨_, _, rfl, rfl, hm, q.here wd (.int _)⟩
      · exact op_mulW pins s σ H _ _ _ _ Q I r1 r2 ⟨_, _, rfl, rfl, hm, q.here wd (.int _)⟩
    · cases hz
  · split at hz
    · split at hz
      · cases hz
        exact or_mulN pins s σ H v w u1 u2 Q I r1 r2 ⟨Z, ph, m, _, _, _, wd, rx, ry, hz0, q.np wd⟩
      · cases hz
    · rename_i a ea
      split at hz
      · rename_i hl
        simp only [Bool.and_eq_true, decide_eq_true_eq] at hl
        cases hz
        exact mulT_run I r1 r2 wd rx ea ry hl q
      · cases hz
    · cases hz
  · cases hz
def bopB : BOp → Operator → Bool
  | .add, .Add => true
  | .sub, .Sub => true
  | .mul, .Mult => true
  | .fdiv, .FloorDiv => true
  | .mod, .Mod => true
  | .pow, .Pow => true
  | _, _ => false
theorem or_bop {op : BOp} {o : Operator} (h : bopB op o = true) : OpR X (binaryOp o) (rG X.K fun m x y => bopD m op x y) := by
  cases op <;> cases o <;> first | (exact absurd h (by decide)) | skip
  · exact or_add
  · intro pins s σ H v w u1 u2 Q I r1 r2 h
    obtain ⟨Z, ph, m, x, y, z, wd, rx, ry, hz, q⟩ := h
    simp only [bopD] at hz
    unfold subD at hz
    split at hz <;> cases hz
    cases rx; cases ry
    exact op_sub pins s σ H _ _ _ _ Q I r1 r2 ⟨_, _, rfl, rfl, q.here wd (.int _)⟩
  · exact or_mul
  · intro pins s σ H v w u1 u2 Q I r1 r2 h
    obtain ⟨Z, ph, m, x, y, z, wd, rx, ry, hz, q⟩ := h
    simp only [bopD] at hz
    unfold fdivD at hz
    split at hz <;> try cases hz
    split at hz <;> cases hz
    rename_i hd
    simp only [divOk, Bool.and_eq_true, decide_eq_true_eq] at hd
    cases rx; cases ry
    exact op_fdivW pins s σ H _ _ _ _ Q I r1 r2 ⟨_, _, rfl, rfl, hd, q.here wd (.int _)⟩
  · intro pins s σ H v w u1 u2 Q I r1 r2 h
    obtain ⟨Z, ph, m, x, y, z, wd, rx, ry, hz, q⟩ := h
    simp only [bopD] at hz
    unfold modD at hz
    split at hz <;> try cases hz
    split at hz <;> cases hz
    rename_i hd
    cases rx; cases ry
    exact op_mod pins s σ H _ _ _ _ Q I r1 r2 ⟨_, _, rfl, rfl, hd, q.here wd (.int _)⟩
  · intro pins s σ H v w u1 u2 Q I r1 r2 h
    obtain ⟨Z, ph, m, x, y, z, wd, rx, ry, hz, q⟩ := h
    simp only [bopD] at hz
    unfold powD at hz
    split at hz <;> try cases hz
    split at hz
    · cases hz
      rename_i hd
      simp only [powOk, Bool.and_eq_true, decide_eq_true_eq] at hd
      cases rx; cases ry
      exact op_pow pins s σ H _ _ _ _ Q I r1 r2 ⟨_, _, rfl, rfl, ⟨hd.1.1, hd.1.2, hd.2⟩, q.here wd (.int _)⟩
    · split at hz <;> cases hz
      rename_i hd
      simp only [powOk2, Bool.and_eq_true, decide_eq_true_eq] at hd
      cases rx; cases ry
      exact op_powW pins s σ H _ _ _ _ Q I r1 r2 ⟨_, _, rfl, rfl, ⟨hd.1.1, hd.1.2, hd.2⟩, q.here wd (.int _)⟩

/-! ### comparisons -/
end
section
variable {K : PySem.W.Frag} {Z : Addr → Prop} {ph : List Addr} {H : Hp} {m : M}
mutual
theorem RepV.dp : ∀ {v d}, pure_ d = true → RepV K Z ph H v d → Dp K H v (toP d)
  | _, _, _, .non => .non
  | _, _, _, .bl b => .bl b
  | _, _, _, .int i => .int i
  | _, _, _, .str x => .str x
  | _, _, q, .tup h r => .tup h (RepVs.dp q r)
  | _, _, q, .lst h n z r => .lst (SqL.of h) (RepVs.dp q r)
  | _, _, q, .frz h r => by simp [pure_] at q
  | _, _, q, .ref h => by simp [pure_] at q
theorem RepVs.dp : ∀ {vs ds}, pures ds = true → RepVs K Z ph H vs ds → DpAll K H vs (toPs ds)
  | _, _, _, .nil => .nil
  | _, _, q, .cons h r => by
    simp only [pures, Bool.and_eq_true] at q
    exact .cons (RepV.dp q.1 h) (RepVs.dp q.2 r)
end
theorem dp_deref {v : V} {d : D} (w : Wd K Z ph m H) (r : RepV K Z ph H v d) (hp : pure_ (deref m d) = true) : Dp K H v (toP (deref m d)) := by
  cases r with
  | @ref a l h =>
    simp only [deref] at hp ⊢
    split at hp
    · rename_i xs e
      obtain ⟨vs, h2, r⟩ := w.at e h
      exact .lst (SqL.of h2) (RepVs.dp hp r)
    · simp [pure_] at hp
  | frz h r => simp [deref, pure_] at hp
  | non => exact .non
  | bl b => exact .bl b
  | int i => exact .int i
  | str x => exact .str x
  | tup h r => exact RepV.dp (ph := ph) (Z := Z) hp (.tup h r)
  | lst h n z r => exact RepV.dp hp (.lst h n z r)
end
section
variable {X : Cx}
def rGC (K : PySem.W.Frag) (g : M → D → D → Option Bool) : R2 := fun v w H Q => ∃ Z ph m x y z, Wd K Z ph m H ∧ RepV K Z ph H v x ∧ RepV K Z ph H w y ∧ g m x y = some z ∧ Q (.bl z) H
theorem or_eq (hu : X.A.units + 64 < cLine) : OpR X (compareOp .Eq) (rGC X.K eqD) := by
  intro pins s σ H v w u1 u2 Q I r1 r2 h
  obtain ⟨Z, ph, m, x, y, z, wd, rx, ry, hz, q⟩ := h
  unfold eqD at hz
  split at hz
  · cases hz; cases rx; cases ry
    refine op_eq pins s σ H _ _ _ _ Q I r1 r2 ⟨rfl, ?_⟩
    simpa using q
  · cases hz; cases rx; cases ry
    refine op_eq pins s σ H _ _ _ _ Q I r1 r2 ⟨rfl, ?_⟩
    simpa using q
  · cases hz; cases rx; cases ry
    refine op_eq pins s σ H _ _ _ _ Q I r1 r2 ⟨rfl, ?_⟩
    rw [L2.dec_bl]; exact q
  · split at hz
    · rename_i hk
      cases hz
      simp only [eqOk, Bool.and_eq_true, decide_eq_true_eq] at hk
      obtain ⟨⟨⟨⟨k1, k2⟩, k3⟩, k4⟩, k5⟩ := hk
      obtain ⟨as, a1⟩ := Dp.reads I _ _ _ (dp_deref wd rx k1) r1
      obtain ⟨bs, b1⟩ := Dp.reads I _ _ _ (dp_deref wd ry k2) r2
      exact SeqAt.compareEq_reads a1 b1 k3 k4 (by omega) ⟨.bl _, H, I, rfl, q⟩
    · cases hz
theorem or_ne (hu : X.A.units + 64 < cLine) : OpR X (compareOp .NotEq) (rGC X.K fun m x y => (eqD m x y).map (!·)) := by
  intro pins s σ H v w u1 u2 Q I r1 r2 h
  obtain ⟨Z, ph, m, x, y, z, wd, rx, ry, hz, q⟩ := h
  obtain ⟨k, hk, rfl⟩ := Option.map_eq_some_iff.mp hz
  unfold eqD at hk
  split at hk
  · cases hk; cases rx; cases ry
    refine op_ne pins s σ H _ _ _ _ Q I r1 r2 ⟨rfl, ?_⟩
    simpa using q
  · cases hk; cases rx; cases ry
    refine op_ne pins s σ H _ _ _ _ Q I r1 r2 ⟨rfl, ?_⟩
    simpa using q
  · cases hk; cases rx; cases ry
    refine op_ne pins s σ H _ _ _ _ Q I r1 r2 ⟨rfl, ?_⟩
    rw [L2.dec_bl]; exact q
  · split at hk
    · rename_i hk'
      cases hk
      simp only [eqOk, Bool.and_eq_true, decide_eq_true_eq] at hk'
      obtain ⟨⟨⟨⟨k1, k2⟩, k3⟩, k4⟩, k5⟩ := hk'
      obtain ⟨as, a1⟩ := Dp.reads I _ _ _ (dp_deref wd rx k1) r1
      obtain ⟨bs, b1⟩ := Dp.reads I _ _ _ (dp_deref wd ry k2) r2
      exact SeqAt.compareNe_reads a1 b1 k3 k4 (by omega) ⟨.bl _, H, I, rfl, q⟩
    · cases hk
theorem flat_rep {K : PySem.W.Frag} {Z : Addr → Prop} {ph : List Addr} {H : Hp} {v : V} {d : D} (r : RepV K Z ph H v d) (h : flatD d = true) : flatV v = true := by
  cases r <;> first | rfl | simp [flatD] at h
theorem eqF_rep {K : PySem.W.Frag} {Z : Addr → Prop} {ph : List Addr} {H : Hp} {v w : V} {d e : D} (r : RepV K Z ph H v d) (h : flatD d = true) (q : RepV K Z ph H w e) (h' : flatD e = true) : eqV v w = eqF d e := by
  cases r <;> cases q <;> first | rfl | simp [flatD] at h h'
theorem flats_rep {K : PySem.W.Frag} {Z : Addr → Prop} {ph : List Addr} {H : Hp} {vs : List V} {ds : List D} (r : RepVs K Z ph H vs ds) (h : ds.all flatD = true) : vs.all flatV = true := by
  induction ds generalizing vs with
  | nil => cases r; rfl
  | cons d ds ih =>
    cases r with
    | cons h0 r =>
      simp only [List.all_cons, Bool.and_eq_true] at h ⊢
      exact ⟨flat_rep h0 h.1, ih r h.2⟩
theorem inV_rep {K : PySem.W.Frag} {Z : Addr → Prop} {ph : List Addr} {H : Hp} {v : V} {d : D} {vs : List V} {ds : List D} (r : RepVs K Z ph H vs ds) (h : ds.all flatD = true) (q : RepV K Z ph H v d) (hd : flatD d = true) : inV v vs = ds.any fun z => eqF z d := by
  induction ds generalizing vs with
  | nil => cases r; rfl
  | cons d0 ds ih =>
    cases r with
    | cons h0 r =>
      simp only [List.all_cons, Bool.and_eq_true] at h
      have := ih r h.2
      unfold inV at this ⊢
      rw [List.any_cons, List.any_cons, this, eqF_rep h0 h.1 q hd]
theorem rd_seq {K : PySem.W.Frag} {Z : Addr → Prop} {ph : List Addr} {H : Hp} {m : M} {v : V} {d : D} {ds : List D} (w : Wd K Z ph m H) (r : RepV K Z ph H v d) (h : seqOf m d = some ds) : ∃ a vs, v = .ref a ∧ (SqL K H a vs ∨ SqT K H a vs) ∧ RepVs K Z ph H vs ds := by
  unfold seqOf at h
  split at h
  · rename_i xs e
    cases h
    obtain ⟨a, vs, e1, e2, q⟩ := rd_tup r e
    exact ⟨a, vs, e1, .inr e2, q⟩
  · rename_i xs e
    cases h
    obtain ⟨a, vs, e1, e2, q⟩ := rd_lst w r e
    exact ⟨a, vs, e1, .inl (SqL.of e2), q⟩
  · cases h
theorem or_in : OpR X (compareOp .In) (rGC X.K inD) := by
  intro pins s σ H v w u1 u2 Q I r1 r2 h
  obtain ⟨Z, ph, m, x, y, z, wd, rx, ry, hz, q⟩ := h
  unfold inD at hz
  split at hz
  · rename_i ys e
    split at hz
    · rename_i hk
      cases hz
      simp only [Bool.and_eq_true] at hk
      obtain ⟨a, vs, rfl, hq, rs⟩ := rd_seq wd ry e
      refine op_in_seq pins s σ H _ _ _ _ Q I r1 r2 ⟨a, vs, rfl, hq, flat_rep rx hk.1, flats_rep rs hk.2, ?_⟩
      rw [inV_rep rs hk.2 rx hk.1]
      exact q
    · cases hz
  · cases hz
theorem or_notin : OpR X (compareOp .NotIn) (rGC X.K fun m x y => (inD m x y).map (!·)) := by
  intro pins s σ H v w u1 u2 Q I r1 r2 h
  obtain ⟨Z, ph, m, x, y, z, wd, rx, ry, hz, q⟩ := h
  obtain ⟨k, hk, rfl⟩ := Option.map_eq_some_iff.mp hz
  unfold inD at hk
  split at hk
  · rename_i ys e
    split at hk
    · rename_i hk'
      cases hk
      simp only [Bool.and_eq_true] at hk'
      obtain ⟨a, vs, rfl, hq, rs⟩ := rd_seq wd ry e
      refine op_notIn_seq pins s σ H _ _ _ _ Q I r1 r2 ⟨a, vs, rfl, hq, flat_rep rx hk'.1, flats_rep rs hk'.2, ?_⟩
      rw [inV_rep rs hk'.2 rx hk'.1]
      exact q
    · cases hk
  · cases hk
def copB : COp → CmpOp → Bool
  | .eq, .Eq => true
  | .ne, .NotEq => true
  | .lt, .Lt => true
  | .le, .LtE => true
  | .gt, .Gt => true
  | .ge, .GtE => true
  | .isin, .In => true
  | .notin, .NotIn => true
  | _, _ => false
theorem or_cop (hu : X.A.units + 64 < cLine) {op : COp} {o : CmpOp} (h : copB op o = true) : OpR X (compareOp o) (rGC X.K fun m x y => cmpD m op x y) := by
  cases op <;> cases o <;> first | (exact absurd h (by decide)) | skip
  · exact or_eq hu
  · exact or_ne hu
  · intro pins s σ H v w u1 u2 Q I r1 r2 h
    obtain ⟨Z, ph, m, x, y, z, wd, rx, ry, hz, q⟩ := h
    simp only [cmpD] at hz
    unfold ordD at hz
    split at hz <;> cases hz
    cases rx; cases ry
    exact op_lt pins s σ H _ _ _ _ Q I r1 r2 ⟨_, _, rfl, rfl, q⟩
  · intro pins s σ H v w u1 u2 Q I r1 r2 h
    obtain ⟨Z, ph, m, x, y, z, wd, rx, ry, hz, q⟩ := h
    simp only [cmpD] at hz
    unfold ordD at hz
    split at hz <;> cases hz
    cases rx; cases ry
    exact op_le pins s σ H _ _ _ _ Q I r1 r2 ⟨_, _, rfl, rfl, q⟩
  · intro pins s σ H v w u1 u2 Q I r1 r2 h
    obtain ⟨Z, ph, m, x, y, z, wd, rx, ry, hz, q⟩ := h
    simp only [cmpD] at hz
    unfold ordD at hz
    split at hz <;> cases hz
    cases rx; cases ry
    exact op_gt pins s σ H _ _ _ _ Q I r1 r2 ⟨_, _, rfl, rfl, q⟩
  · intro pins s σ H v w u1 u2 Q I r1 r2 h
    obtain ⟨Z, ph, m, x, y, z, wd, rx, ry, hz, q⟩ := h
    simp only [cmpD] at hz
    unfold ordD at hz
    split at hz <;> cases hz
    cases rx; cases ry
    exact op_ge pins s σ H _ _ _ _ Q I r1 r2 ⟨_, _, rfl, rfl, q⟩
  · exact or_in
  · exact or_notin
end
end Pv

namespace Pv
open PySem PySem.Spec PyProof.Rows L2
/-! ## calls that count one a level (the kit's Room counts three: no more than 231 levels) -/
structure Rm (n : Nat) (A : Around) : Prop where
  hd : A.handled = none
  dp : A.depth + n + 5 < recursionLimit
  un : A.units + 4 * n + 200 < cLine
theorem Rm.deeper {n : Nat} {A : Around} (r : Rm (n + 1) A) (env : PySem.Env) : Rm n (A.deeper env) :=
  ⟨r.hd, by have := r.dp; show A.depth + 1 + n + 5 < _; omega, by have := r.un; show A.units + 3 + 4 * n + 200 < _; omega⟩
theorem Rm.depth {n : Nat} {A : Around} (r : Rm n A) : A.depth < recursionLimit := by have := r.dp; omega
theorem Rm.units {n : Nat} {A : Around} (r : Rm n A) : A.units + 64 < cLine := by have := r.un; omega
theorem Rm.of {n k : Nat} {A : Around} (r : Room k A) (h : n ≤ 3 * k) : Rm n A := ⟨r.hd, by have := r.dp; omega, by have := r.un; omega⟩
structure FnK (P : Program) (w : World) (K : PySem.W.Frag) (mg : Str → Option Value) (base : Heap) (n : Nat) (f : Addr) (fd : FuncData) (ps : List Str) (sp : Sp) : Prop where
  len : ∀ vs H Q E, sp vs H Q E → vs.length = ps.length
  run : ∀ (A : Around) (outer : List PySem.Env) (s : Shared) (H : Hp) (args : Args) (us : List Value) (vs : List V) (Q : VK) (E : XK), Rm n A → Env0 P w K mg base A outer s H → BindsTo s fd args (ps.zip us) → Vals vs us → sp vs H Q E →
    codeAny (model P w) A (.call (.ref f) args) (CR CX0 outer P w H s Q E) s
theorem FnK.ok {P : Program} {w : World} {K : PySem.W.Frag} {mg : Str → Option Value} {base : Heap} {n k : Nat} {f : Addr} {fd : FuncData} {ps : List Str} {sp : Sp} (F : FnK P w K mg base n f fd ps sp) (h : n ≤ 3 * k) : FnOk P w K mg base CX0 k f fd ps sp :=
  ⟨F.len, fun A outer s H args us vs Q E hr => F.run A outer s H args us vs Q E (Rm.of hr h)⟩
section
variable {X : Cx} {n : Nat} {f : Addr} {fd : FuncData} {ps : List Str} {sp : Sp} {x : Str} {p pos : Pos} {e : Expr} {es : List Expr} {t : TA}
theorem k_run {pins : List (Addr × Obj)} {σ : L2.St} {H : Hp} {s : Shared} {Q : VK} {us : List Value} {vs : List V} (F : FnK X.prog X.w X.K X.mg X.base n f fd ps sp) (hr : Rm n X.A) (hb : Binds X.K fd ps [])
    (I : Inv X pins σ H s) (r : Vals vs us) (h : sp vs H Q E0) : wpAny (model X.prog X.w) X.A (call (.ref f) us) (EP X pins σ Q) X.xe s := by
  have hl : us.length = ps.length := by rw [← r.length]; exact F.len _ _ _ _ h
  have b := hb s us I.kIn (by rw [List.append_nil]; exact hl)
  rw [List.append_nil] at b
  refine wpAny_call (codeAny_mono (F.run X.A X.stack s H ⟨us, []⟩ us vs Q E0 hr I.env0 b r h) fun r s' hq => ?_)
  cases r with
  | error e => exact False.elim hq
  | ok fl =>
    cases fl with
    | ret u => exact I.after hq
    | next => exact False.elim hq
    | brk => exact False.elim hq
    | cont => exact False.elim hq
theorem k_call (F : FnK X.prog X.w X.K X.mg X.base n f fd ps sp) (hr : Rm n X.A) (hg : Gl X x) (hm : X.mg x = some (.ref f)) (hk : PySem.W.keepIn X.K (.ref f) = true) (hb : Binds X.K fd ps [])
    (ha : PA X (e :: es) t) (hdb : (x == ("__debug__" : Str)) = false) (he : starEach (e :: es) X.env = (false, eval e X.env) :: starEach es X.env) (hpl : (backTo pos (starEach es X.env)).any (·.1) = false) :
    PE X (.Call (.Name x p) (e :: es) [] pos) (tCall sp [] E0 t) := by
  refine ⟨fun pins s σ H Q I h => ?_⟩
  refine wpAny_Call_Name_kw (ld_glob I hg hm ?_ hdb)
  refine PySem.W.callWith_K (h₀ := X.base) I.ok.mod.kin hk (thn (ha.run pos pins s σ H _ I h) fun us s1 ⟨vs, H1, I1, r, q⟩ => ⟨I1.kIn, ?_⟩) he hpl
  have q : sp (vs ++ []) H1 Q E0 := q
  rw [List.append_nil] at q
  exact k_run F hr hb I1 r q
theorem k_call0 (F : FnK X.prog X.w X.K X.mg X.base n f fd ps sp) (hr : Rm n X.A) (hg : Gl X x) (hm : X.mg x = some (.ref f)) (hk : PySem.W.keepIn X.K (.ref f) = true) (hb : Binds X.K fd ps [])
    (hdb : (x == ("__debug__" : Str)) = false) : PE X (.Call (.Name x p) [] [] pos) (tCall sp [] E0 tNil) := by
  refine ⟨fun pins s σ H Q I h => ?_⟩
  refine wpAny_Call_Name_kw (ld_glob I hg hm ?_ hdb)
  exact PySem.W.callWith_K0 I.kIn hk (k_run (us := []) F hr hb I .nil h)
end
theorem k_fn {P : Program} {w : World} {K : PySem.W.Frag} {mg : Str → Option Value} {base : Heap} {x qual : Str} {st : Stmt} {f : Addr} {fd : FuncData} {N ps : List Str} {n : Nat} {sp : Sp} (F : Fun K x qual st f fd) (S : FnScope N ps (defScope st)) (len : ∀ vs H Q E, sp vs H Q E → vs.length = ps.length)
    (hbody : ∀ (cdv : Value) (A : Around) (outer : List PySem.Env) (s : Shared) (H : Hp) (vs : List V) (Q : VK) (E : XK), Rm n (A.deeper (envOfC qual (defScope st) s.heap.objs.size f cdv)) → sp vs H Q E →
      ∃ t, PSs (cxOf CX0 P w K mg base N qual (defScope st) f cdv A outer s H E).nox (defBody st) t ∧ t { nx := fun _ H' => Q .non H', rt := Q } (start N vs) H) : FnK P w K mg base (n + 1) f fd ps sp := by
  obtain ⟨oc, od, kV, doc, pm, an, cdv, ct, osl, rfl, lk, hcd⟩ := F.ex
  refine ⟨len, fun A outer s H args us vs Q E hr e0 hb r hsp => ?_⟩
  have hl := len _ _ _ _ hsp
  have KX : K.In s.heap := e0.mod.kin.keeps fun b o e => (e0.bs b o e).1
  have nl : s.heap.NoLimit := e0.mod.nolimit.keeps fun b o e => (e0.bs b o e).1
  have hkind : ∀ y ∈ ps.zip us, (defScope st).names.lookup y.1 = some .local ∨ ((defScope st).names.lookup y.1 = some .cell ∧ ((cellsFrom (s.heap.objs.size + 1) (defScope st).names []).lookup y.1).isSome = true) := fun ⟨a, v⟩ hy => by
    rcases S.par a (List.of_mem_zip hy).1 with q | q
    · exact .inl q
    · exact .inr ⟨q, PySem.W.cellsFrom_some _ _ _ (.inl q)⟩
  refine codeAny_call_function hr.depth (KX _ _ lk) rfl S.co S.gen rfl (PySem.W.codeRec_of KX hcd) (hb _ _ _ _ ?_)
  refine wpAny_newFunctionEnv_cells S.kind hkind fun env he s1 y => ?_
  subst he
  refine ⟨nl.keeps y.toInCall.keep, codeAny_func ?_⟩
  obtain ⟨t, ht, hq⟩ := hbody cdv A outer s H vs Q E (hr.deeper _) hsp
  have I : Inv (cxOf CX0 P w K mg base N qual (defScope st) f cdv A outer s H E) [] (start N vs) H s1 := inv_start S hr.hd e0 hl r y
  refine wpAny_mono (ht.nox.run [] s1 (start N vs) H _ I hq) (fun fl s' hs => ?_) fun e s' hs => hs
  cases fl with
  | ret u =>
    obtain ⟨v, σ', H', J, rv, q⟩ := hs
    exact ⟨v, H', J.os, J.bare, J.base, J.hok, rv, q⟩
  | next =>
    obtain ⟨σ', H', J, q⟩ := hs
    exact ⟨V.non, H', J.os, J.bare, J.base, J.hok, rfl, q⟩
  | brk =>
    obtain ⟨_, _, _, q⟩ := hs
    exact False.elim q
  | cont =>
    obtain ⟨_, _, _, q⟩ := hs
    exact False.elim q
end Pv

namespace Pv
open PySem L2

/-! ## readings -/
abbrev RE := Env → M → Option (D × M)
abbrev RA := Env → M → Option (List D × M)
def tEv (K : PySem.W.Frag) (r : RE) : TE := fun σ H Q => ∃ Z ph env m, RepE K Z ph H σ env ∧ Wd K Z ph m H ∧ ∃ d m', r env m = some (d, m') ∧ PV K Z ph H m' d Q
def tEvN (K : PySem.W.Frag) (r : RE) : TE := fun σ H Q => ∃ Z ph env m, RepE K Z ph H σ env ∧ Wd K Z ph m H ∧ ∃ ds m', r env m = some (.lst ds, m') ∧ NP K Z ph H m' ds Q
def tEvT (K : PySem.W.Frag) (r : RE) : TT := fun σ H Q => ∃ Z ph env m, RepE K Z ph H σ env ∧ Wd K Z ph m H ∧ ∃ b m', r env m = some (.bl b, m') ∧ ∀ ph' H', Sx ph H ph' H' → Wd K Z ph' m' H' → Q b H'
def tEvA (K : PySem.W.Frag) (r : RA) : TA := fun σ H Q => ∃ Z ph env m, RepE K Z ph H σ env ∧ Wd K Z ph m H ∧ ∃ ds m', r env m = some (ds, m') ∧ ∀ ph' H' vs, Sx ph H ph' H' → Wd K Z ph' m' H' → RepVs K Z ph' H' vs ds → Q vs H'

theorem pe_imp {X : Cx} {x : Expr} {t t' : TE} (h : PE X x t) (i : ∀ σ H Q, t' σ H Q → t σ H Q) : PE X x t' := ⟨fun pins s σ H Q I w => h.run pins s σ H Q I (i σ H Q w)⟩
theorem pt_imp {X : Cx} {x : Expr} {t t' : TT} (h : PT X x t) (i : ∀ σ H Q, t' σ H Q → t σ H Q) : PT X x t' := ⟨fun pins s σ H Q I w => h.run pins s σ H Q I (i σ H Q w)⟩
theorem pw_imp {X : Cx} {x : Expr} {t t' : TT} (h : PW X x t) (i : ∀ σ H Q, t' σ H Q → t σ H Q) : PW X x t' := ⟨fun wh pins s σ H Q I w => h.run wh pins s σ H Q I (i σ H Q w)⟩
theorem pa_imp {X : Cx} {x : List Expr} {t t' : TA} (h : PA X x t) (i : ∀ σ H Q, t' σ H Q → t σ H Q) : PA X x t' := ⟨fun pos pins s σ H Q I w => h.run pos pins s σ H Q I (i σ H Q w)⟩
theorem ps_imp {X : Cx} {x : Stmt} {t t' : TS} (h : PS X x t) (i : ∀ D σ H, t' D σ H → t D σ H) : PS X x t' := ⟨fun pins s σ H D I w => h.run pins s σ H D I (i D σ H w)⟩
theorem pss_imp {X : Cx} {x : List Stmt} {t t' : TS} (h : PSs X x t) (i : ∀ D σ H, t' D σ H → t D σ H) : PSs X x t' := ⟨fun pins s σ H D I w => h.run pins s σ H D I (i D σ H w)⟩

section
variable {K : PySem.W.Frag} {Z : Addr → Prop} {ph ph1 : List Addr} {H H1 : Hp} {m m' m1 : M} {d z : D} {ds : List D} {σ : L2.St} {env : Env} {Q : VK} {r : RE} {b : Bool}
theorem PV.after (q : PV K Z ph H m' z Q) (s : Sx ph H ph1 H1) : PV K Z ph1 H1 m' z Q := fun ph' H' u s' w r => q ph' H' u (s.trans s') w r
theorem NP.after (q : NP K Z ph H m' ds Q) (s : Sx ph H ph1 H1) : NP K Z ph1 H1 m' ds Q := fun ph' H' p vs h1 h2 h3 s' w r => q ph' H' p vs (s.free h1) h2 h3 (s.trans s') w r
theorem ev_of (re : RepE K Z ph H σ env) (wd : Wd K Z ph m H) (h : r env m = some (d, m1))
    (q : ∀ ph1 H1 v, Sx ph H ph1 H1 → Wd K Z ph1 m1 H1 → RepE K Z ph1 H1 σ env → RepV K Z ph1 H1 v d → Q v H1) : tEv K r σ H Q :=
  ⟨Z, ph, env, m, re, wd, d, m1, h, fun ph' H' u s w r => q ph' H' u s w (re.mono s) r⟩
theorem evt_of {Q : Bool → Hp → Prop} (re : RepE K Z ph H σ env) (wd : Wd K Z ph m H) (h : r env m = some (.bl b, m1))
    (q : ∀ ph1 H1, Sx ph H ph1 H1 → Wd K Z ph1 m1 H1 → RepE K Z ph1 H1 σ env → Q b H1) : tEvT K r σ H Q :=
  ⟨Z, ph, env, m, re, wd, b, m1, h, fun ph' H' s w => q ph' H' s w (re.mono s)⟩
theorem eva_of {Q : List V → Hp → Prop} {r : RA} (re : RepE K Z ph H σ env) (wd : Wd K Z ph m H) (h : r env m = some (ds, m1))
    (q : ∀ ph1 H1 vs, Sx ph H ph1 H1 → Wd K Z ph1 m1 H1 → RepE K Z ph1 H1 σ env → RepVs K Z ph1 H1 vs ds → Q vs H1) : tEvA K r σ H Q :=
  ⟨Z, ph, env, m, re, wd, ds, m1, h, fun ph' H' u s w r => q ph' H' u s w (re.mono s) r⟩
end

/-! ## the context of a def's body, of a comprehension's block -/
structure Sx_ where
  N : List Str
  sc : Scope
  fb : Str → Bool
structure XOk (X : Cx) (S : Sx_) : Prop where
  n : X.N = S.N
  sc : X.env.scope = S.sc
  fb : X.fn = S.fb
  calm : X.calm = true
  nd : X.N.Nodup
  un : X.A.units + 64 < cLine

/-! ## expressions, node by node -/
section
variable {X : Cx} {x y w : Expr} {pos : Pos} {ra rb rc : RE}
theorem n_var {i : Nat} {s : Str} (hN : X.N[i]? = some s) (hv : Vis X.env.scope s) (hd : (s == ("__debug__" : Str)) = false) (hcd : (s == ("__classdict__" : Str)) = false) :
    PE X (.Name s pos) (tEv X.K fun env m => match env[i]? with | some (some d) => some (d, m) | _ => none) :=
  pe_imp (pe_var hN hv hd hcd) fun σ H Q ⟨Z, ph, env, m, re, wd, d, m', e, q⟩ => by
    simp only at e
    split at e
    · rename_i d' h
      cases e
      obtain ⟨v, h1, r⟩ := re.at_ i d h
      exact ⟨v, h1, q.here wd r⟩
    · cases e
def conP : D → Const → Prop
  | .non, .none => True
  | .bl b, .bool b' => b = b'
  | .int i, .int j => i = j
  | .str x, .str y => x = y
  | _, _ => False
theorem n_con {c : Const} {k : Nat} {d : D} (h : conP d c) : PE X (.Constant c k pos) (tEv X.K fun _ m => some (d, m)) := by
  unfold conP at h
  split at h
  · exact pe_imp pe_non fun σ H Q ⟨Z, ph, env, m, re, wd, d, m', e, q⟩ => by cases e; exact q.here wd .non
  · cases h; exact pe_imp pe_bl fun σ H Q ⟨Z, ph, env, m, re, wd, d, m', e, q⟩ => by cases e; exact q.here wd (.bl _)
  · cases h; exact pe_imp pe_int fun σ H Q ⟨Z, ph, env, m, re, wd, d, m', e, q⟩ => by cases e; exact q.here wd (.int _)
  · cases h; exact pe_imp pe_str fun σ H Q ⟨Z, ph, env, m, re, wd, d, m', e, q⟩ => by cases e; exact q.here wd (.str _)
  · exact h.elim
theorem n_glob {s : Str} {u : Value} {v : V} {d : D} (hg : Gl X s) (hm : X.mg s = some u) (r : RelV v u) (hr : ∀ Z ph H, RepV X.K Z ph H v d) (hd : (s == ("__debug__" : Str)) = false) :
    PE X (.Name s pos) (tEv X.K fun _ m => some (d, m)) :=
  pe_imp (pe_glob hg hm r hd) fun σ H Q ⟨Z, ph, env, m, re, wd, d, m', e, q⟩ => by cases e; exact q.here wd (hr _ _ _)
theorem n_bin {op : BOp} {o : Operator} (h : bopB op o = true) (ha : PE X x (tEv X.K ra)) (hb : PE X y (tEv X.K rb)) :
    PE X (.BinOp x o y pos) (tEv X.K fun env m => (ra env m).bind fun p => (rb env p.2).bind fun q => (bopD q.2 op p.1 q.1).map fun d => (d, q.2)) :=
  pe_imp (pe_op (or_bop h) ha hb) fun σ H Q ⟨Z, ph, env, m, re, wd, d, m', e, q⟩ => by
    obtain ⟨p, h1, e⟩ := Option.bind_eq_some_iff.mp e
    obtain ⟨p2, h2, e⟩ := Option.bind_eq_some_iff.mp e
    obtain ⟨d', h3, e⟩ := Option.map_eq_some_iff.mp e
    cases e
    exact ev_of re wd h1 fun ph1 H1 v s1 w1 re1 r1 => ev_of re1 w1 h2 fun ph2 H2 w s2 w2 re2 r2 => ⟨Z, ph2, p2.2, p.1, p2.1, _, w2, r1.mono s2, r2, h3, q.after (s1.trans s2)⟩
theorem n_binN {op : BOp} {o : Operator} (h : bopB op o = true) (hop : op = .add ∨ op = .mul) (ha : PE X x (tEv X.K ra)) (hb : PE X y (tEv X.K rb)) :
    PE X (.BinOp x o y pos) (tEvN X.K fun env m => (ra env m).bind fun p => (rb env p.2).bind fun q => (bopD q.2 op p.1 q.1).map fun d => (d, q.2)) := by
  have ho : OpR X (binaryOp o) (rGN X.K fun m x y => bopD m op x y) := by
    rcases hop with rfl | rfl <;> (cases o <;> first | (exact absurd h (by decide)) | exact or_addN | exact or_mulN)
  exact pe_imp (pe_op ho ha hb) fun σ H Q ⟨Z, ph, env, m, re, wd, d, m', e, q⟩ => by
    obtain ⟨p, h1, e⟩ := Option.bind_eq_some_iff.mp e
    obtain ⟨p2, h2, e⟩ := Option.bind_eq_some_iff.mp e
    obtain ⟨d', h3, e⟩ := Option.map_eq_some_iff.mp e
    cases e
    exact ev_of re wd h1 fun ph1 H1 v s1 w1 re1 r1 => ev_of re1 w1 h2 fun ph2 H2 w s2 w2 re2 r2 => ⟨Z, ph2, p2.2, p.1, p2.1, _, w2, r1.mono s2, r2, h3, q.after (s1.trans s2)⟩
theorem n_neg (ha : PE X x (tEv X.K ra)) : PE X (.UnaryOp .USub x pos) (tEv X.K fun env m => (ra env m).bind fun p => match p.1 with | .int i => some (.int (-i), p.2) | _ => none) :=
  pe_imp (pe_un un_neg ha) fun σ H Q ⟨Z, ph, env, m, re, wd, d, m', e, q⟩ => by
    obtain ⟨p, h1, e⟩ := Option.bind_eq_some_iff.mp e
    refine ev_of re wd h1 fun ph1 H1 v s1 w1 re1 r1 => ?_
    split at e
    · rename_i i hi
      cases e
      rw [hi] at r1
      cases r1
      exact ⟨i, rfl, (q.after s1).here w1 (.int _)⟩
    · cases e
def rCmp (op : COp) (ra rb : RE) : RE := fun env m => (ra env m).bind fun p => (rb env p.2).bind fun q => (cmpD q.2 op p.1 q.1).map fun d => (.bl d, q.2)
theorem n_cmp (hu : X.A.units + 64 < cLine) {op : COp} {o : CmpOp} (h : copB op o = true) (ha : PE X x (tEv X.K ra)) (hb : PE X y (tEv X.K rb)) (hm : behindInMarks o y = false) :
    PE X (.Compare x [o] [y] pos) (tEv X.K (rCmp op ra rb)) :=
  pe_imp (pe_cmpR (or_cop hu h) ha hb hm) fun σ H Q ⟨Z, ph, env, m, re, wd, d, m', e, q⟩ => by
    obtain ⟨p, h1, e⟩ := Option.bind_eq_some_iff.mp e
    obtain ⟨p2, h2, e⟩ := Option.bind_eq_some_iff.mp e
    obtain ⟨d', h3, e⟩ := Option.map_eq_some_iff.mp e
    cases e
    exact ev_of re wd h1 fun ph1 H1 v s1 w1 re1 r1 => ev_of re1 w1 h2 fun ph2 H2 w s2 w2 re2 r2 => ⟨Z, ph2, p2.2, p.1, p2.1, _, w2, r1.mono s2, r2, h3, (q.after (s1.trans s2)).here w2 (.bl _)⟩
theorem t_cmp (hu : X.A.units + 64 < cLine) {op : COp} {o : CmpOp} (h : copB op o = true) (ha : PE X x (tEv X.K ra)) (hb : PE X y (tEv X.K rb)) (hm : behindInMarks o y = false) :
    PT X (.Compare x [o] [y] pos) (tEvT X.K (rCmp op ra rb)) :=
  pt_imp (pt_cmpR (or_cop hu h) ha hb hm) fun σ H Q ⟨Z, ph, env, m, re, wd, d, m', e, q⟩ => by
    obtain ⟨p, h1, e⟩ := Option.bind_eq_some_iff.mp e
    obtain ⟨p2, h2, e⟩ := Option.bind_eq_some_iff.mp e
    obtain ⟨d', h3, e⟩ := Option.map_eq_some_iff.mp e
    cases e
    exact ev_of re wd h1 fun ph1 H1 v s1 w1 re1 r1 => ev_of re1 w1 h2 fun ph2 H2 w s2 w2 re2 r2 => ⟨Z, ph2, p2.2, p.1, p2.1, _, w2, r1.mono s2, r2, h3, _, rfl, q ph2 H2 (s1.trans s2) w2⟩
def rChain (o p : COp) (ra rb rc : RE) : RE := fun env m => (ra env m).bind fun x => (rb env x.2).bind fun y => (cmpD y.2 o x.1 y.1).bind fun k =>
  if k then (rc env y.2).bind fun z => (cmpD z.2 p y.1 z.1).map fun d => (.bl d, z.2) else some (.bl false, y.2)
theorem chain_run {op op' : COp} {o o' : CmpOp} {σ : L2.St} {H : Hp} {Q : VK} {Z ph env m} {b : Bool} {m'} (re : RepE X.K Z ph H σ env) (wd : Wd X.K Z ph m H) (e : rChain op op' ra rb rc env m = some (.bl b, m'))
    (q : ∀ ph' H', Sx ph H ph' H' → Wd X.K Z ph' m' H' → Q (.bl b) H') : tChain (rGC X.K fun m x y => cmpD m op x y) (rGC X.K fun m x y => cmpD m op' x y) (tEv X.K ra) (tEv X.K rb) (tEv X.K rc) σ H Q := by
  obtain ⟨p, h1, e⟩ := Option.bind_eq_some_iff.mp e
  obtain ⟨p2, h2, e⟩ := Option.bind_eq_some_iff.mp e
  obtain ⟨k, h3, e⟩ := Option.bind_eq_some_iff.mp e
  refine ev_of re wd h1 fun ph1 H1 v s1 w1 re1 r1 => ev_of re1 w1 h2 fun ph2 H2 w s2 w2 re2 r2 => ⟨Z, ph2, p2.2, p.1, p2.1, _, w2, r1.mono s2, r2, h3, k, rfl, ?_⟩
  cases k with
  | true =>
    simp only [if_true] at e ⊢
    obtain ⟨p3, h4, e⟩ := Option.bind_eq_some_iff.mp e
    obtain ⟨d', h5, e⟩ := Option.map_eq_some_iff.mp e
    cases e
    exact ev_of re2 w2 h4 fun ph3 H3 v3 s3 w3 re3 r3 => ⟨Z, ph3, p3.2, p2.1, p3.1, _, w3, r2.mono s3, r3, h5, q ph3 H3 ((s1.trans s2).trans s3) w3⟩
  | false =>
    simp only [Bool.false_eq_true, if_false] at e ⊢
    cases e
    exact q ph2 H2 (s1.trans s2) w2
theorem rChain_bl {op op' : COp} {env : Env} {m m' : M} {d : D} (e : rChain op op' ra rb rc env m = some (d, m')) : ∃ b, d = .bl b := by
  obtain ⟨p, h1, e⟩ := Option.bind_eq_some_iff.mp e
  obtain ⟨p2, h2, e⟩ := Option.bind_eq_some_iff.mp e
  obtain ⟨k, h3, e⟩ := Option.bind_eq_some_iff.mp e
  split at e
  · obtain ⟨p3, h4, e⟩ := Option.bind_eq_some_iff.mp e
    obtain ⟨d', h5, e⟩ := Option.map_eq_some_iff.mp e
    cases e
    exact ⟨_, rfl⟩
  · cases e
    exact ⟨_, rfl⟩
theorem n_chain (hu : X.A.units + 64 < cLine) {op op' : COp} {o o' : CmpOp} (h : copB op o = true) (h' : copB op' o' = true) (ha : PE X x (tEv X.K ra)) (hb : PE X y (tEv X.K rb)) (hc : PE X w (tEv X.K rc)) (hm : behindInMarks o' w = false) :
    PE X (.Compare x [o, o'] [y, w] pos) (tEv X.K (rChain op op' ra rb rc)) :=
  pe_imp (pe_chain (or_cop hu h) (or_cop hu h') ha hb hc hm) fun σ H Q ⟨Z, ph, env, m, re, wd, d, m', e, q⟩ => by
    obtain ⟨b, rfl⟩ := rChain_bl e
    exact chain_run (o := o) (o' := o') re wd e fun ph' H' s w => (q.after s).here w (.bl _)
theorem t_chain (hu : X.A.units + 64 < cLine) {op op' : COp} {o o' : CmpOp} (h : copB op o = true) (h' : copB op' o' = true) (ha : PE X x (tEv X.K ra)) (hb : PE X y (tEv X.K rb)) (hc : PE X w (tEv X.K rc)) (hm : behindInMarks o' w = false) :
    PT X (.Compare x [o, o'] [y, w] pos) (tEvT X.K (rChain op op' ra rb rc)) :=
  pt_imp (pt_chain (or_cop hu h) (or_cop hu h') ha hb hc hm) fun σ H Q ⟨Z, ph, env, m, re, wd, d, m', e, q⟩ =>
    chain_run (o := o) (o' := o') re wd e fun ph' H' s w => ⟨d, rfl, q ph' H' s w⟩
theorem non_iff {K : PySem.W.Frag} {Z : Addr → Prop} {ph : List Addr} {H : Hp} {v : V} {d : D} (r : RepV K Z ph H v d) : decide (v = .non) = decide (d = .non) := by
  cases r <;> simp
def rIsN_ (ra : RE) : RE := fun env m => (ra env m).map fun p => (.bl (decide (p.1 = .non)), p.2)
def rNotN_ (ra : RE) : RE := fun env m => (ra env m).map fun p => (.bl (!decide (p.1 = .non)), p.2)
theorem n_isN {k : Nat} {pos' : Pos} (ha : PE X x (tEv X.K ra)) : PE X (.Compare x [.Is] [.Constant .none k pos'] pos) (tEv X.K (rIsN_ ra)) :=
  pe_imp (pe_cmp (pc_isN ha) rfl) fun σ H Q ⟨Z, ph, env, m, re, wd, d, m', e, q⟩ => by
    obtain ⟨p, h1, e⟩ := Option.map_eq_some_iff.mp e
    cases e
    refine ev_of re wd h1 fun ph1 H1 v s1 w1 re1 r1 => ?_
    rw [non_iff r1]
    exact (q.after s1).here w1 (.bl _)
theorem t_isN {k : Nat} {pos' : Pos} (ha : PE X x (tEv X.K ra)) : PT X (.Compare x [.Is] [.Constant .none k pos'] pos) (tEvT X.K (rIsN_ ra)) :=
  pt_imp (pt_cmp (pc_isN ha) rfl) fun σ H Q ⟨Z, ph, env, m, re, wd, d, m', e, q⟩ => by
    obtain ⟨p, h1, e⟩ := Option.map_eq_some_iff.mp e
    cases e
    refine ev_of re wd h1 fun ph1 H1 v s1 w1 re1 r1 => ⟨_, rfl, ?_⟩
    rw [non_iff r1]
    exact q ph1 H1 s1 w1
theorem n_notN {k : Nat} {pos' : Pos} (ha : PE X x (tEv X.K ra)) : PE X (.Compare x [.IsNot] [.Constant .none k pos'] pos) (tEv X.K (rNotN_ ra)) :=
  pe_imp (pe_cmp (pc_notN ha) rfl) fun σ H Q ⟨Z, ph, env, m, re, wd, d, m', e, q⟩ => by
    obtain ⟨p, h1, e⟩ := Option.map_eq_some_iff.mp e
    cases e
    refine ev_of re wd h1 fun ph1 H1 v s1 w1 re1 r1 => ?_
    rw [non_iff r1]
    exact (q.after s1).here w1 (.bl _)
theorem t_notN {k : Nat} {pos' : Pos} (ha : PE X x (tEv X.K ra)) : PT X (.Compare x [.IsNot] [.Constant .none k pos'] pos) (tEvT X.K (rNotN_ ra)) :=
  pt_imp (pt_cmp (pc_notN ha) rfl) fun σ H Q ⟨Z, ph, env, m, re, wd, d, m', e, q⟩ => by
    obtain ⟨p, h1, e⟩ := Option.map_eq_some_iff.mp e
    cases e
    refine ev_of re wd h1 fun ph1 H1 v s1 w1 re1 r1 => ⟨_, rfl, ?_⟩
    rw [non_iff r1]
    exact q ph1 H1 s1 w1

/-! ### and, or, not, if -/
def rAnd_ (ra rb : RE) : RE := fun env m => (ra env m).bind fun p => match p.1 with
  | .bl true => rb env p.2
  | .bl false => some (.bl false, p.2)
  | _ => none
def rOr_ (ra rb : RE) : RE := fun env m => (ra env m).bind fun p => match p.1 with
  | .bl true => some (.bl true, p.2)
  | .bl false => rb env p.2
  | _ => none
def rNot_ (ra : RE) : RE := fun env m => (ra env m).bind fun p => match p.1 with
  | .bl k => some (.bl (!k), p.2)
  | _ => none
def rIf_ (rc ra rb : RE) : RE := fun env m => (rc env m).bind fun p => match p.1 with
  | .bl true => ra env p.2
  | .bl false => rb env p.2
  | _ => none
variable {rest : List Expr}
theorem n_and1 (ha : PE X x (tEv X.K ra)) : PE X (.BoolOp .And [x] pos) (tEv X.K ra) := pe_one ha
theorem n_or1 (ha : PE X x (tEv X.K ra)) : PE X (.BoolOp .Or [x] pos) (tEv X.K ra) := pe_one ha
theorem n_and (ha : PE X x (tEv X.K ra)) (hb : PE X (.BoolOp .And (y :: rest) pos) (tEv X.K rb)) : PE X (.BoolOp .And (x :: y :: rest) pos) (tEv X.K (rAnd_ ra rb)) :=
  pe_imp (pe_and ha hb) fun σ H Q ⟨Z, ph, env, m, re, wd, d, m', e, q⟩ => by
    obtain ⟨p, h1, e⟩ := Option.bind_eq_some_iff.mp e
    refine ev_of re wd h1 fun ph1 H1 v s1 w1 re1 r1 => ?_
    split at e
    · rename_i hp
      rw [hp] at r1
      cases r1
      exact ⟨true, rfl, iteT (ev_of re1 w1 e fun ph2 H2 v s2 w2 re2 r2 => q ph2 H2 v (s1.trans s2) w2 r2)⟩
    · rename_i hp
      rw [hp] at r1
      cases r1
      cases e
      exact ⟨false, rfl, iteF ((q.after s1).here w1 (.bl _))⟩
    · cases e
theorem n_or (ha : PE X x (tEv X.K ra)) (hb : PE X (.BoolOp .Or (y :: rest) pos) (tEv X.K rb)) : PE X (.BoolOp .Or (x :: y :: rest) pos) (tEv X.K (rOr_ ra rb)) :=
  pe_imp (pe_or ha hb) fun σ H Q ⟨Z, ph, env, m, re, wd, d, m', e, q⟩ => by
    obtain ⟨p, h1, e⟩ := Option.bind_eq_some_iff.mp e
    refine ev_of re wd h1 fun ph1 H1 v s1 w1 re1 r1 => ?_
    split at e
    · rename_i hp
      rw [hp] at r1
      cases r1
      cases e
      exact ⟨true, rfl, iteT ((q.after s1).here w1 (.bl _))⟩
    · rename_i hp
      rw [hp] at r1
      cases r1
      exact ⟨false, rfl, iteF (ev_of re1 w1 e fun ph2 H2 v s2 w2 re2 r2 => q ph2 H2 v (s1.trans s2) w2 r2)⟩
    · cases e
theorem n_not (ha : PE X x (tEv X.K ra)) : PE X (.UnaryOp .Not x pos) (tEv X.K (rNot_ ra)) :=
  pe_imp (pe_not ha) fun σ H Q ⟨Z, ph, env, m, re, wd, d, m', e, q⟩ => by
    obtain ⟨p, h1, e⟩ := Option.bind_eq_some_iff.mp e
    refine ev_of re wd h1 fun ph1 H1 v s1 w1 re1 r1 => ?_
    split at e
    · rename_i k hp
      rw [hp] at r1
      cases r1
      cases e
      exact ⟨k, rfl, (q.after s1).here w1 (.bl _)⟩
    · cases e
theorem w_and1 (ha : PT X x (tEvT X.K ra)) : PW X (.BoolOp .And [x] pos) (tEvT X.K ra) := pw_and1 ha
theorem w_or1 (ha : PT X x (tEvT X.K ra)) : PW X (.BoolOp .Or [x] pos) (tEvT X.K ra) := pw_or1 ha
theorem w_and (ha : PT X x (tEvT X.K ra)) (hb : PW X (.BoolOp .And (y :: rest) pos) (tEvT X.K rb)) : PW X (.BoolOp .And (x :: y :: rest) pos) (tEvT X.K (rAnd_ ra rb)) :=
  pw_imp (pw_and ha hb) fun σ H Q ⟨Z, ph, env, m, re, wd, d, m', e, q⟩ => by
    obtain ⟨p, h1, e⟩ := Option.bind_eq_some_iff.mp e
    split at e
    · rename_i hp
      exact evt_of re wd (b := true) (m1 := p.2) (by rw [h1, ← hp]) fun ph1 H1 s1 w1 re1 => iteT (evt_of re1 w1 e fun ph2 H2 s2 w2 re2 => q ph2 H2 (s1.trans s2) w2)
    · rename_i hp
      cases e
      exact evt_of re wd (b := false) (m1 := p.2) (by rw [h1, ← hp]) fun ph1 H1 s1 w1 re1 => iteF (q ph1 H1 s1 w1)
    · cases e
theorem w_or (ha : PT X x (tEvT X.K ra)) (hb : PW X (.BoolOp .Or (y :: rest) pos) (tEvT X.K rb)) : PW X (.BoolOp .Or (x :: y :: rest) pos) (tEvT X.K (rOr_ ra rb)) :=
  pw_imp (pw_or ha hb) fun σ H Q ⟨Z, ph, env, m, re, wd, d, m', e, q⟩ => by
    obtain ⟨p, h1, e⟩ := Option.bind_eq_some_iff.mp e
    split at e
    · rename_i hp
      cases e
      exact evt_of re wd (b := true) (m1 := p.2) (by rw [h1, ← hp]) fun ph1 H1 s1 w1 re1 => iteT (q ph1 H1 s1 w1)
    · rename_i hp
      exact evt_of re wd (b := false) (m1 := p.2) (by rw [h1, ← hp]) fun ph1 H1 s1 w1 re1 => iteF (evt_of re1 w1 e fun ph2 H2 s2 w2 re2 => q ph2 H2 (s1.trans s2) w2)
    · cases e
theorem t_not (ha : PT X x (tEvT X.K ra)) : PT X (.UnaryOp .Not x pos) (tEvT X.K (rNot_ ra)) :=
  pt_imp (pt_not ha) fun σ H Q ⟨Z, ph, env, m, re, wd, d, m', e, q⟩ => by
    obtain ⟨p, h1, e⟩ := Option.bind_eq_some_iff.mp e
    split at e
    · rename_i k hp
      cases e
      exact evt_of re wd (b := k) (m1 := p.2) (by rw [h1, ← hp]) fun ph1 H1 s1 w1 re1 => q ph1 H1 s1 w1
    · cases e
theorem t_val (ha : PE X x (tEv X.K ra)) (he : ∀ whole, isTrue x X.env whole = (do let v ← whole; standAt x.pos; holding [v] (truthy v))) : PT X x (tEvT X.K ra) :=
  pt_imp (pt_val ha he) fun σ H Q ⟨Z, ph, env, m, re, wd, d, m', e, q⟩ => by
    refine ev_of re wd e fun ph1 H1 v s1 w1 re1 r1 => ?_
    cases r1
    exact ⟨d, rfl, q ph1 H1 s1 w1⟩
theorem t_ife (hc : PT X w (tEvT X.K rc)) (ha : PT X x (tEvT X.K ra)) (hb : PT X y (tEvT X.K rb)) : PT X (.IfExp w x y pos) (tEvT X.K (rIf_ rc ra rb)) := by
  refine ⟨fun pins s σ H Q I ⟨Z, ph, env, m, re, wd, d, m', e, q⟩ => ?_⟩
  obtain ⟨p, h1, e⟩ := Option.bind_eq_some_iff.mp e
  show wpAny _ _ (do if ← isTrue w X.env (eval w X.env) then isTrue x X.env (eval x X.env) else isTrue y X.env (eval y X.env)) _ _ s
  split at e
  · rename_i hp
    refine wpAny_bind (thn (hc.run pins s σ H (fun b H1 => b = true ∧ tEvT X.K ra σ H1 Q) I (evt_of re wd (b := true) (m1 := p.2) (by rw [h1, ← hp]) fun ph1 H1 s1 w1 re1 => ⟨rfl, evt_of re1 w1 e fun ph2 H2 s2 w2 re2 => q ph2 H2 (s1.trans s2) w2⟩)) fun b s1 ⟨H1, I1, hb', q1⟩ => ?_)
    subst hb'
    exact ha.run pins s1 σ H1 Q I1 q1
  · rename_i hp
    refine wpAny_bind (thn (hc.run pins s σ H (fun b H1 => b = false ∧ tEvT X.K rb σ H1 Q) I (evt_of re wd (b := false) (m1 := p.2) (by rw [h1, ← hp]) fun ph1 H1 s1 w1 re1 => ⟨rfl, evt_of re1 w1 e fun ph2 H2 s2 w2 re2 => q ph2 H2 (s1.trans s2) w2⟩)) fun b s1 ⟨H1, I1, hb', q1⟩ => ?_)
    subst hb'
    exact hb.run pins s1 σ H1 Q I1 q1
  · cases e
theorem n_ife (hc : PT X w (tEvT X.K rc)) (ha : PE X x (tEv X.K ra)) (hb : PE X y (tEv X.K rb)) : PE X (.IfExp w x y pos) (tEv X.K (rIf_ rc ra rb)) :=
  pe_imp (pe_ifExp hc ha hb) fun σ H Q ⟨Z, ph, env, m, re, wd, d, m', e, q⟩ => by
    obtain ⟨p, h1, e⟩ := Option.bind_eq_some_iff.mp e
    split at e
    · rename_i hp
      exact evt_of re wd (b := true) (m1 := p.2) (by rw [h1, ← hp]) fun ph1 H1 s1 w1 re1 => iteT (ev_of re1 w1 e fun ph2 H2 v s2 w2 re2 r2 => q ph2 H2 v (s1.trans s2) w2 r2)
    · rename_i hp
      exact evt_of re wd (b := false) (m1 := p.2) (by rw [h1, ← hp]) fun ph1 H1 s1 w1 re1 => iteF (ev_of re1 w1 e fun ph2 H2 v s2 w2 re2 r2 => q ph2 H2 v (s1.trans s2) w2 r2)
    · cases e

/-! ### arguments, displays -/
def rCons_ (ra : RE) (rs : RA) : RA := fun env m => (ra env m).bind fun p => (rs env p.2).bind fun q => some (p.1 :: q.1, q.2)
variable {xs : List Expr} {rs : RA}
theorem a_nil : PA X [] (tEvA X.K fun _ m => some ([], m)) := pa_imp pa_nil fun σ H Q ⟨Z, ph, env, m, re, wd, d, m', e, q⟩ => by cases e; exact q ph H [] Sx.refl wd .nil
theorem a_cons (ha : PE X x (tEv X.K ra)) (hr : PA X xs (tEvA X.K rs)) (hs : starEach (x :: xs) X.env = (false, eval x X.env) :: starEach xs X.env) : PA X (x :: xs) (tEvA X.K (rCons_ ra rs)) :=
  pa_imp (pa_cons ha hr hs) fun σ H Q ⟨Z, ph, env, m, re, wd, d, m', e, q⟩ => by
    obtain ⟨p, h1, e⟩ := Option.bind_eq_some_iff.mp e
    obtain ⟨p2, h2, e⟩ := Option.bind_eq_some_iff.mp e
    cases e
    exact ev_of re wd h1 fun ph1 H1 v s1 w1 re1 r1 => eva_of re1 w1 h2 fun ph2 H2 vs s2 w2 re2 r2 => q ph2 H2 (v :: vs) (s1.trans s2) w2 (.cons (r1.mono s2) r2)
theorem n_tup {k : Nat} (ha : PA X xs (tEvA X.K rs)) : PE X (.Tuple xs k pos) (tEv X.K fun env m => (rs env m).bind fun p => if p.1.length ≤ lim then some (.tup p.1, p.2) else none) :=
  pe_imp (pe_tup ha) fun σ H Q ⟨Z, ph, env, m, re, wd, d, m', e, q⟩ => by
    obtain ⟨p, h1, e⟩ := Option.bind_eq_some_iff.mp e
    split at e
    · rename_i hl
      cases e
      exact eva_of re wd h1 fun ph1 H1 vs s1 w1 re1 r1 => ⟨by rw [r1.len, ← lim_eq]; exact hl, fun l hl => (q.after s1).tup w1 hl r1⟩
    · cases e
theorem n_lstN (ha : PA X xs (tEvA X.K rs)) : PE X (.List xs pos) (tEvN X.K fun env m => (rs env m).bind fun p => if p.1.length ≤ lim then some (.lst p.1, p.2) else none) :=
  pe_imp (pe_lst ha) fun σ H Q ⟨Z, ph, env, m, re, wd, d, m', e, q⟩ => by
    obtain ⟨p, h1, e⟩ := Option.bind_eq_some_iff.mp e
    split at e
    · rename_i hl
      cases e
      exact eva_of re wd h1 fun ph1 H1 vs s1 w1 re1 r1 => ⟨by rw [r1.len, ← lim_eq]; exact hl, fun l hl => (q.after s1).upd w1 hl r1⟩
    · cases e
/-- a new list as a value, as a mutable thing -/
theorem of_new {r : RE} (h : PE X x (tEvN X.K r)) (hr : ∀ env m d m', r env m = some (d, m') → ∃ ds, d = .lst ds) : PE X x (tEv X.K r) :=
  pe_imp h fun σ H Q ⟨Z, ph, env, m, re, wd, d, m', e, q⟩ => by
    obtain ⟨ds, rfl⟩ := hr env m d m' e
    exact ⟨Z, ph, env, m, re, wd, ds, m', e, q.np wd⟩
theorem n_box {r : RE} (h : PE X x (tEvN X.K r)) : PE X x (tEv X.K fun env m => (r env m).bind fun p => match p.1 with | .lst xs => some (.ref p.2.length, p.2 ++ [.lst xs]) | _ => none) :=
  pe_imp h fun σ H Q ⟨Z, ph, env, m, re, wd, d, m', e, q⟩ => by
    obtain ⟨p, h1, e⟩ := Option.bind_eq_some_iff.mp e
    split at e
    · rename_i ds hp
      cases e
      refine ⟨Z, ph, env, m, re, wd, ds, p.2, by rw [h1, ← hp], fun ph' H' a vs hn ha hna s w r => ?_⟩
      refine q (ph' ++ [a]) H' (.ref a) ?_ (w.box ha hna r) (.ref ?_)
      · refine ⟨?_, fun b hb => ?_, s.fr, s.ft, s.old⟩
        · obtain ⟨x, e⟩ := s.ext
          exact ⟨x ++ [a], by rw [e, List.append_assoc]⟩
        · rcases List.mem_append.mp hb with hb | hb
          · exact s.new b hb
          · have e : b = a := by simpa using hb
            subst e
            exact .inr hn
      · rw [← w.len]; simp
    · cases e

/-! ### calls -/
def spF (K : PySem.W.Frag) (k : Nat) (f : List D → M → Option (D × M)) : Sp := fun vs H Q _ => vs.length = k ∧ ∃ Z ph m ds, RepVs K Z ph H vs ds ∧ Wd K Z ph m H ∧ ∃ d m', f ds m = some (d, m') ∧ PV K Z ph H m' d Q
def rCall_ (f : List D → M → Option (D × M)) (rs : RA) : RE := fun env m => (rs env m).bind fun p => f p.1 p.2
def rCallP_ (f : List D → M → Option (D × M)) (rs : RA) : RE := fun env m => (rs env m).bind fun p => (f p.1 p.2).bind fun q => if q.2.take p.2.length = p.2 ∧ pure_ q.1 = true then some (q.1, p.2) else none
variable {n k : Nat} {f : Addr} {fd : FuncData} {ps : List Str} {nm : Str} {p : Pos} {g : List D → M → Option (D × M)}
theorem call_sp {E : XK} {σ : L2.St} {H : Hp} {Q : VK} (hk : ∀ ds m r, g ds m = some r → ds.length = k) (h : tEv X.K (rCall_ g rs) σ H Q) : tCall (spF X.K k g) [] E (tEvA X.K rs) σ H Q := by
  obtain ⟨Z, ph, env, m, re, wd, d, m', e, q⟩ := h
  obtain ⟨p, h1, e⟩ := Option.bind_eq_some_iff.mp e
  refine eva_of re wd h1 fun ph1 H1 vs s1 w1 re1 r1 => ?_
  rw [List.append_nil]
  exact ⟨by rw [r1.len]; exact hk _ _ _ e, Z, ph1, p.2, p.1, r1, w1, d, m', e, q.after s1⟩
theorem callP_sp {E : XK} {σ : L2.St} {H : Hp} {Q : VK} (hk : ∀ ds m r, g ds m = some r → ds.length = k) (h : tEv X.K (rCallP_ g rs) σ H Q) : tCall (spF X.K k g) [] E (tEvA X.K rs) σ H Q := by
  obtain ⟨Z, ph, env, m, re, wd, d, m', e, q⟩ := h
  obtain ⟨p, h1, e⟩ := Option.bind_eq_some_iff.mp e
  obtain ⟨p2, h2, e⟩ := Option.bind_eq_some_iff.mp e
  split at e
  · rename_i hc
    cases e
    refine eva_of re wd h1 fun ph1 H1 vs s1 w1 re1 r1 => ?_
    rw [List.append_nil]
    refine ⟨by rw [r1.len]; exact hk _ _ _ h2, Z, ph1, p.2, p.1, r1, w1, p2.1, p2.2, h2, fun ph' H' u s w r => ?_⟩
    obtain ⟨more, e⟩ := s.ext
    subst e
    exact q ph1 H' u (s1.trans s.cut) (w1.cut w hc.1) (r.cut (below_pure _ hc.2))
  · cases e
theorem n_callG {t : TE} (F : FnK X.prog X.w X.K X.mg X.base n f fd ps (spF X.K k g)) (ht : ∀ σ H Q, t σ H Q → tCall (spF X.K k g) [] E0 (tEvA X.K rs) σ H Q) (hr : Rm n X.A) (hg : Gl X nm) (hm : X.mg nm = some (.ref f)) (hkp : PySem.W.keepIn X.K (.ref f) = true) (hb : Binds X.K fd ps [])
    (ha : PA X xs (tEvA X.K rs)) (hst : ∀ z zs, xs = z :: zs → starEach (z :: zs) X.env = (false, eval z X.env) :: starEach zs X.env) (hpl : ∀ z zs, xs = z :: zs → (backTo pos (starEach zs X.env)).any (·.1) = false) (hnil : xs = [] → rs = fun _ m => some ([], m)) (hdb : (nm == ("__debug__" : Str)) = false) :
    PE X (.Call (.Name nm p) xs [] pos) t := by
  cases xs with
  | nil =>
    refine pe_imp (k_call0 F hr hg hm hkp hb hdb) fun σ H Q h => ?_
    have h := ht _ _ _ h
    rw [hnil rfl] at h
    obtain ⟨Z, ph, env, m, re, wd, d, m', e, q⟩ := h
    cases e
    exact q ph H [] Sx.refl wd .nil
  | cons z zs => exact pe_imp (k_call F hr hg hm hkp hb ha hdb (hst z zs rfl) (hpl z zs rfl)) ht

/-! ### built-in functions -/
def rBi_ (b : BI) (rs : RA) : RE := fun env m => (rs env m).bind fun p => (biD p.2 b p.1).map fun d => (d, p.2)
def rGB (K : PySem.W.Frag) (g : M → List D → Option D) : List V → Hp → VK → Prop := fun vs H Q => ∃ Z ph m ds z, Wd K Z ph m H ∧ RepVs K Z ph H vs ds ∧ g m ds = some z ∧ PV K Z ph H m z Q
def rGBN (K : PySem.W.Frag) (g : M → List D → Option D) : List V → Hp → VK → Prop := fun vs H Q => ∃ Z ph m ds zs, Wd K Z ph m H ∧ RepVs K Z ph H vs ds ∧ g m ds = some (.lst zs) ∧ NP K Z ph H m zs Q
theorem bi_run {σ : L2.St} {H : Hp} {Q : VK} {b : BI} (h : tEv X.K (rBi_ b rs) σ H Q) : tCB (rGB X.K fun m ds => biD m b ds) (tEvA X.K rs) σ H Q := by
  obtain ⟨Z, ph, env, m, re, wd, d, m', e, q⟩ := h
  obtain ⟨p, h1, e⟩ := Option.bind_eq_some_iff.mp e
  obtain ⟨z, h2, e⟩ := Option.map_eq_some_iff.mp e
  cases e
  exact eva_of re wd h1 fun ph1 H1 vs s1 w1 re1 r1 => ⟨Z, ph1, p.2, p.1, _, w1, r1, h2, q.after s1⟩
theorem bi_runN {σ : L2.St} {H : Hp} {Q : VK} {b : BI} (h : tEvN X.K (rBi_ b rs) σ H Q) : tCB (rGBN X.K fun m ds => biD m b ds) (tEvA X.K rs) σ H Q := by
  obtain ⟨Z, ph, env, m, re, wd, d, m', e, q⟩ := h
  obtain ⟨p, h1, e⟩ := Option.bind_eq_some_iff.mp e
  obtain ⟨z, h2, e⟩ := Option.map_eq_some_iff.mp e
  cases e
  exact eva_of re wd h1 fun ph1 H1 vs s1 w1 re1 r1 => ⟨Z, ph1, p.2, p.1, _, w1, r1, h2, q.after s1⟩
theorem rep1 {K : PySem.W.Frag} {Z : Addr → Prop} {ph : List Addr} {H : Hp} {vs : List V} {d : D} (r : RepVs K Z ph H vs [d]) : ∃ v, vs = [v] ∧ RepV K Z ph H v d := by
  cases r with | cons h r => cases r; exact ⟨_, rfl, h⟩
theorem rep2 {K : PySem.W.Frag} {Z : Addr → Prop} {ph : List Addr} {H : Hp} {vs : List V} {d e : D} (r : RepVs K Z ph H vs [d, e]) : ∃ v w, vs = [v, w] ∧ RepV K Z ph H v d ∧ RepV K Z ph H w e := by
  cases r with | cons h r => cases r with | cons h' r => cases r; exact ⟨_, _, rfl, h, h'⟩
theorem c_len : CallR X (.builtin "len") (rGB X.K fun m ds => biD m .len ds) := by
  intro pins s σ H vs us Q I r h
  obtain ⟨Z, ph, m, ds, z, wd, rs, hz, q⟩ := h
  match ds, rs, hz with
  | [d], rs, hz =>
    obtain ⟨v, rfl, rv⟩ := rep1 rs
    obtain ⟨n, hn, rfl⟩ := Option.map_eq_some_iff.mp hz
    refine call_len pins s σ H _ us Q I r ?_
    unfold lenD at hn
    split at hn
    · rename_i xs e
      cases hn
      obtain ⟨a, ws, rfl, h1, r1⟩ := rd_tup rv e
      exact ⟨_, ws.length, rfl, .inr ⟨ws, h1, rfl⟩, by rw [r1.len]; exact q.here wd (.int _)⟩
    · rename_i xs e
      cases hn
      obtain ⟨a, ws, rfl, h1, r1⟩ := rd_lst wd rv e
      exact ⟨_, ws.length, rfl, .inl ⟨ws, SqL.of h1, rfl⟩, by rw [r1.len]; exact q.here wd (.int _)⟩
    · rename_i xs e
      cases hn
      obtain ⟨a, ws, rfl, h1, r1⟩ := rd_frz rv e
      exact ⟨_, ws.length, rfl, .inl ⟨ws, h1.sqL, rfl⟩, by rw [r1.len]; exact q.here wd (.int _)⟩
    · rename_i z e
      split at hn
      · rename_i hl
        cases hn
        obtain rfl := rd_str rv e
        exact ⟨_, z.length, rfl, ⟨by rw [← lim_eq]; exact hl, rfl⟩, q.here wd (.int _)⟩
      · cases hn
    · cases hn
theorem c_int : CallR X (.type "int") (rGB X.K fun m ds => biD m .int ds) := by
  intro pins s σ H vs us Q I r h
  obtain ⟨Z, ph, m, ds, z, wd, rs, hz, q⟩ := h
  match ds, rs, hz with
  | [.int i], rs, hz =>
    obtain ⟨v, rfl, rv⟩ := rep1 rs
    cases rv; cases hz
    exact call_int1 pins s σ H _ us Q I r (.inl ⟨_, rfl, q.here wd (.int _)⟩)
  | [.bl b], rs, hz =>
    obtain ⟨v, rfl, rv⟩ := rep1 rs
    cases rv; cases hz
    exact call_int1 pins s σ H _ us Q I r (.inr ⟨_, rfl, q.here wd (.int _)⟩)
theorem c_tuple : CallR X (.type "tuple") (rGB X.K fun m ds => biD m .tuple ds) := by
  intro pins s σ H vs us Q I r h
  obtain ⟨Z, ph, m, ds, z, wd, rs, hz, q⟩ := h
  match ds, rs, hz with
  | [d], rs, hz =>
    obtain ⟨v, rfl, rv⟩ := rep1 rs
    obtain ⟨xs, hn, rfl⟩ := Option.map_eq_some_iff.mp hz
    obtain ⟨a, ws, rfl, h1, r1⟩ := rd_seq wd rv hn
    refine call_tuple_of pins s σ H _ us Q I r ⟨a, ws, rfl, ?_⟩
    rcases h1 with h1 | h1
    · exact .inl ⟨h1, fun l hl => q.tup wd hl r1⟩
    · exact .inr ⟨h1, q.here wd (.tup h1 r1)⟩
theorem signs_rep {K : PySem.W.Frag} {Z : Addr → Prop} {ph : List Addr} {H : Hp} : ∀ (l : List Nat), RepVs K Z ph H (l.map fun c => V.str ⟨#[c]⟩) (l.map fun c => D.str ⟨#[c]⟩)
  | [] => .nil
  | c :: l => .cons (.str _) (signs_rep l)
theorem c_listN (hc : X.calm = true) : CallR X (.type "list") (rGBN X.K fun m ds => biD m .list ds) := by
  intro pins s σ H vs us Q I r h
  obtain ⟨Z, ph, m, ds, z, wd, rs, hz, q⟩ := h
  match ds, rs, hz with
  | [.str x], rs, hz =>
    obtain ⟨v, rfl, rv⟩ := rep1 rs
    cases rv
    simp only [biD] at hz
    split at hz
    · rename_i hl
      cases hz
      exact cr_listS hc pins s σ H _ us Q I r ⟨x, rfl, by rw [← lim_eq]; exact hl, fun l hl => q.upd wd hl (signs_rep _)⟩
    · cases hz
  | [.non], rs, hz | [.bl _], rs, hz | [.int _], rs, hz | [.tup _], rs, hz | [.lst _], rs, hz | [.frz _], rs, hz | [.ref _], rs, hz =>
    obtain ⟨v, rfl, rv⟩ := rep1 rs
    simp only [biD] at hz
    obtain ⟨xs, hn, e⟩ := Option.map_eq_some_iff.mp hz
    cases e
    obtain ⟨a, ws, rfl, h1, r1⟩ := rd_seq wd rv hn
    exact call_list_of pins s σ H _ us Q I r ⟨a, ws, rfl, h1, fun l hl => q.upd wd hl r1⟩
theorem biD_list {m : M} {ds : List D} {z : D} (h : biD m .list ds = some z) : ∃ zs, z = .lst zs := by
  match ds, h with
  | [.str x], h =>
    simp only [biD] at h
    split at h
    · cases h; exact ⟨_, rfl⟩
    · cases h
  | [.non], h | [.bl _], h | [.int _], h | [.tup _], h | [.lst _], h | [.frz _], h | [.ref _], h =>
    simp only [biD] at h
    obtain ⟨xs, hn, e⟩ := Option.map_eq_some_iff.mp h
    exact ⟨xs, e.symm⟩
theorem c_list (hc : X.calm = true) : CallR X (.type "list") (rGB X.K fun m ds => biD m .list ds) := by
  intro pins s σ H vs us Q I r h
  obtain ⟨Z, ph, m, ds, z, wd, rs, hz, q⟩ := h
  obtain ⟨zs, rfl⟩ := biD_list hz
  exact c_listN hc pins s σ H vs us Q I r ⟨Z, ph, m, ds, zs, wd, rs, hz, q.np wd⟩
theorem c_str : CallR X (.type "str") (rGB X.K fun m ds => biD m .str ds) := by
  intro pins s σ H vs us Q I r h
  obtain ⟨Z, ph, m, ds, z, wd, rs, hz, q⟩ := h
  match ds, rs, hz with
  | [.int i], rs, hz =>
    obtain ⟨v, rfl, rv⟩ := rep1 rs
    cases rv
    simp only [biD] at hz
    split at hz
    · rename_i hl
      cases hz
      exact call_str_int pins s σ H _ us Q I r ⟨i, rfl, hl, q.here wd (.str _)⟩
    · cases hz
theorem ints_rep {K : PySem.W.Frag} {Z : Addr → Prop} {ph : List Addr} {H : Hp} : ∀ {ds : List D} {ns : List Int} {vs : List V}, intsD ds = some ns → RepVs K Z ph H vs ds → vs = ns.map V.int
  | [], ns, vs, h, r => by cases h; cases r; rfl
  | d :: ds, ns, vs, h, r => by
    cases r with
    | cons h0 r =>
      cases d <;> simp only [intsD] at h <;> try cases h
      obtain ⟨ms, h1, rfl⟩ := Option.map_eq_some_iff.mp h
      cases h0
      rw [ints_rep h1 r]
      rfl
theorem ints_back {K : PySem.W.Frag} {Z : Addr → Prop} {ph : List Addr} {H : Hp} : ∀ (ns : List Int), RepVs K Z ph H (ns.map V.int) (ns.map D.int)
  | [] => .nil
  | n :: ns => .cons (.int n) (ints_back ns)
theorem bools_rep {K : PySem.W.Frag} {Z : Addr → Prop} {ph : List Addr} {H : Hp} : ∀ {ds : List D} {ns : List Bool} {vs : List V}, bools ds = some ns → RepVs K Z ph H vs ds → vs = ns.map V.bl
  | [], ns, vs, h, r => by cases h; cases r; rfl
  | d :: ds, ns, vs, h, r => by
    cases r with
    | cons h0 r =>
      cases d <;> simp only [bools] at h <;> try cases h
      obtain ⟨ms, h1, rfl⟩ := Option.map_eq_some_iff.mp h
      cases h0
      rw [bools_rep h1 r]
      rfl
theorem c_sum (hc : X.calm = true) : CallR X (.builtin "sum") (rGB X.K fun m ds => biD m .sum ds) := by
  intro pins s σ H vs us Q I r h
  obtain ⟨Z, ph, m, ds, z, wd, rs, hz, q⟩ := h
  match ds, rs, hz with
  | [d], rs, hz =>
    obtain ⟨v, rfl, rv⟩ := rep1 rs
    simp only [biD] at hz
    split at hz
    · rename_i xs e
      obtain ⟨ns, hn, rfl⟩ := Option.map_eq_some_iff.mp hz
      obtain ⟨a, ws, rfl, h1, r1⟩ := rd_lst wd rv e
      rw [ints_rep hn r1] at h1
      exact cr_sum hc pins s σ H _ us Q I r ⟨a, ns, rfl, SqL.of h1, q.here wd (.int _)⟩
    · cases hz
theorem c_all (hc : X.calm = true) : CallR X (.builtin "all") (rGB X.K fun m ds => biD m .all ds) := by
  intro pins s σ H vs us Q I r h
  obtain ⟨Z, ph, m, ds, z, wd, rs, hz, q⟩ := h
  match ds, rs, hz with
  | [d], rs, hz =>
    obtain ⟨v, rfl, rv⟩ := rep1 rs
    simp only [biD] at hz
    split at hz
    · rename_i xs e
      obtain ⟨ns, hn, rfl⟩ := Option.map_eq_some_iff.mp hz
      obtain ⟨a, ws, rfl, h1, r1⟩ := rd_lst wd rv e
      rw [bools_rep hn r1] at h1
      exact cr_all hc pins s σ H _ us Q I r ⟨a, ns, rfl, SqL.of h1, q.here wd (.bl _)⟩
    · cases hz
theorem c_any (hc : X.calm = true) : CallR X (.builtin "any") (rGB X.K fun m ds => biD m .any ds) := by
  intro pins s σ H vs us Q I r h
  obtain ⟨Z, ph, m, ds, z, wd, rs, hz, q⟩ := h
  match ds, rs, hz with
  | [d], rs, hz =>
    obtain ⟨v, rfl, rv⟩ := rep1 rs
    simp only [biD] at hz
    split at hz
    · rename_i xs e
      obtain ⟨ns, hn, rfl⟩ := Option.map_eq_some_iff.mp hz
      obtain ⟨a, ws, rfl, h1, r1⟩ := rd_lst wd rv e
      rw [bools_rep hn r1] at h1
      exact cr_any hc pins s σ H _ us Q I r ⟨a, ns, rfl, SqL.of h1, q.here wd (.bl _)⟩
    · cases hz
theorem c_max2 (hc : X.calm = true) : CallR X (.builtin "max") (rGB X.K fun m ds => biD m .max2 ds) := by
  intro pins s σ H vs us Q I r h
  obtain ⟨Z, ph, m, ds, z, wd, rs, hz, q⟩ := h
  match ds, rs, hz with
  | [.int i, .int j], rs, hz =>
    obtain ⟨v, w, rfl, rv, rw'⟩ := rep2 rs
    cases rv; cases rw'; cases hz
    exact call_max2 hc pins s σ H _ us Q I r ⟨_, _, rfl, q.here wd (.int _)⟩
theorem c_min2 (hc : X.calm = true) : CallR X (.builtin "min") (rGB X.K fun m ds => biD m .min2 ds) := by
  intro pins s σ H vs us Q I r h
  obtain ⟨Z, ph, m, ds, z, wd, rs, hz, q⟩ := h
  match ds, rs, hz with
  | [.int i, .int j], rs, hz =>
    obtain ⟨v, w, rfl, rv, rw'⟩ := rep2 rs
    cases rv; cases rw'; cases hz
    exact call_min2 hc pins s σ H _ us Q I r ⟨_, _, rfl, q.here wd (.int _)⟩
theorem c_sorted : CallR X (.builtin "sorted") (rGB X.K fun m ds => biD m .sorted ds) := by
  intro pins s σ H vs us Q I r h
  obtain ⟨Z, ph, m, ds, z, wd, rs, hz, q⟩ := h
  match ds, rs, hz with
  | [d], rs, hz =>
    obtain ⟨v, rfl, rv⟩ := rep1 rs
    simp only [biD] at hz
    obtain ⟨xs, hx, hz⟩ := Option.bind_eq_some_iff.mp hz
    obtain ⟨ns, hn, rfl⟩ := Option.map_eq_some_iff.mp hz
    obtain ⟨a, ws, rfl, h1, r1⟩ := rd_seq wd rv hx
    have ew := ints_rep hn r1
    subst ew
    have fin : ∀ (ns' : List Int) (p : Addr), ns'.Perm ns → ns'.Pairwise (· ≤ ·) → H p = none → Q (.ref p) (upd H p (.lst (ns'.map V.int))) := fun ns' p p1 p2 hp => by
      have e : ns' = sortD ns := sort_uniq (p1.trans (sortD_perm ns).symm) p2 (sortD_sorted ns)
      subst e
      exact (q.np wd).upd wd hp (ints_back _)
    rcases h1 with h1 | h1
    · exact cr_sortedI pins s σ H _ us Q I r ⟨a, ns, rfl, h1, fin⟩
    · exact cr_srtT pins s σ H _ us Q I r ⟨a, ns, rfl, h1, fin⟩
theorem c_min1 (hc : X.calm = true) : CallR X (.builtin "min") (rGB X.K fun m ds => biD m .min1 ds) := by
  intro pins s σ H vs us Q I r h
  obtain ⟨Z, ph, m, ds, z, wd, rs, hz, q⟩ := h
  match ds, rs, hz with
  | [d], rs, hz =>
    obtain ⟨v, rfl, rv⟩ := rep1 rs
    simp only [biD] at hz
    split at hz
    · rename_i xs e
      obtain ⟨ns, hn, hz⟩ := Option.bind_eq_some_iff.mp hz
      obtain ⟨k, hk, rfl⟩ := Option.map_eq_some_iff.mp hz
      obtain ⟨a, ws, rfl, h1, r1⟩ := rd_lst wd rv e
      rw [ints_rep hn r1] at h1
      obtain ⟨l1, l2⟩ := least_ok hk
      refine cr_min hc pins s σ H _ us Q I r ⟨a, ns, rfl, SqL.of h1, List.length_pos_of_mem l1, fun j j1 j2 => ?_⟩
      rw [show j = k from Int.le_antisymm (j2 k l1) (l2 j j1)]
      exact q.here wd (.int _)
    · cases hz
theorem c_max1 (hc : X.calm = true) : CallR X (.builtin "max") (rGB X.K fun m ds => biD m .max1 ds) := by
  intro pins s σ H vs us Q I r h
  obtain ⟨Z, ph, m, ds, z, wd, rs, hz, q⟩ := h
  match ds, rs, hz with
  | [d], rs, hz =>
    obtain ⟨v, rfl, rv⟩ := rep1 rs
    simp only [biD] at hz
    split at hz
    · rename_i xs e
      obtain ⟨ns, hn, hz⟩ := Option.bind_eq_some_iff.mp hz
      obtain ⟨k, hk, rfl⟩ := Option.map_eq_some_iff.mp hz
      obtain ⟨a, ws, rfl, h1, r1⟩ := rd_lst wd rv e
      rw [ints_rep hn r1] at h1
      obtain ⟨l1, l2⟩ := most_ok hk
      refine cr_max hc pins s σ H _ us Q I r ⟨a, ns, rfl, SqL.of h1, List.length_pos_of_mem l1, fun j j1 j2 => ?_⟩
      rw [show j = k from Int.le_antisymm (l2 j j1) (j2 k l1)]
      exact q.here wd (.int _)
    · cases hz
def biNm : BI → Str
  | .len => "len"
  | .int => "int"
  | .tuple => "tuple"
  | .list => "list"
  | .sum => "sum"
  | .all => "all"
  | .any => "any"
  | .max2 => "max"
  | .min2 => "min"
  | .sorted => "sorted"
  | .min1 => "min"
  | .max1 => "max"
  | .str => "str"
theorem n_bi {b : BI} {z : Expr} {zs : List Expr} (hc : X.calm = true) (hg : Gl X (biNm b)) (hm : X.mg (biNm b) = none) (ha : PA X (z :: zs) (tEvA X.K rs))
    (he : starEach (z :: zs) X.env = (false, eval z X.env) :: starEach zs X.env) (hpl : (backTo pos (starEach zs X.env)).any (·.1) = false) :
    PE X (.Call (.Name (biNm b) p) (z :: zs) [] pos) (tEv X.K (rBi_ b rs)) := by
  cases b
  · exact pe_imp (pe_callB c_len hg hm (by decide +kernel) ha (by decide) (by decide) he hpl) fun _ _ _ h => bi_run h
  · exact pe_imp (pe_callTy c_int hg hm (by decide +kernel) ha (by decide) (by decide) he hpl) fun _ _ _ h => bi_run h
  · exact pe_imp (pe_callTy c_tuple hg hm (by decide +kernel) ha (by decide) (by decide) he hpl) fun _ _ _ h => bi_run h
  · exact pe_imp (pe_callTy (c_list hc) hg hm (by decide +kernel) ha (by decide) (by decide) he hpl) fun _ _ _ h => bi_run h
  · exact pe_imp (pe_callB (c_sum hc) hg hm (by decide +kernel) ha (by decide) (by decide) he hpl) fun _ _ _ h => bi_run h
  · exact pe_imp (pe_callB (c_all hc) hg hm (by decide +kernel) ha (by decide) (by decide) he hpl) fun _ _ _ h => bi_run h
  · exact pe_imp (pe_callB (c_any hc) hg hm (by decide +kernel) ha (by decide) (by decide) he hpl) fun _ _ _ h => bi_run h
  · exact pe_imp (pe_callB (c_max2 hc) hg hm (by decide +kernel) ha (by decide) (by decide) he hpl) fun _ _ _ h => bi_run h
  · exact pe_imp (pe_callB (c_min2 hc) hg hm (by decide +kernel) ha (by decide) (by decide) he hpl) fun _ _ _ h => bi_run h
  · exact pe_imp (pe_callB c_sorted hg hm (by decide +kernel) ha (by decide) (by decide) he hpl) fun _ _ _ h => bi_run h
  · exact pe_imp (pe_callB (c_min1 hc) hg hm (by decide +kernel) ha (by decide) (by decide) he hpl) fun _ _ _ h => bi_run h
  · exact pe_imp (pe_callB (c_max1 hc) hg hm (by decide +kernel) ha (by decide) (by decide) he hpl) fun _ _ _ h => bi_run h
  · exact pe_imp (pe_callTy c_str hg hm (by decide +kernel) ha (by decide) (by decide) he hpl) fun _ _ _ h => bi_run h
theorem n_listN {z : Expr} {zs : List Expr} (hc : X.calm = true) (hg : Gl X "list") (hm : X.mg "list" = none) (ha : PA X (z :: zs) (tEvA X.K rs))
    (he : starEach (z :: zs) X.env = (false, eval z X.env) :: starEach zs X.env) (hpl : (backTo pos (starEach zs X.env)).any (·.1) = false) :
    PE X (.Call (.Name "list" p) (z :: zs) [] pos) (tEvN X.K (rBi_ .list rs)) :=
  pe_imp (pe_callTy (c_listN hc) hg hm (by decide +kernel) ha (by decide) (by decide) he hpl) fun _ _ _ h => bi_runN h
end
end Pv

namespace Pv
open PySem L2
section
variable {X : Cx} {x y w : Expr} {pos p p2 apos : Pos} {ra rb rc : RE}

/-! ### isinstance -/
def tyS : Ty → String
  | .int => "int" | .bool => "bool" | .str => "str" | .tuple => "tuple"
def tyNm : Ty → Str
  | .int => "int" | .bool => "bool" | .str => "str" | .tuple => "tuple"
def dTy : D → Option String
  | .non => some "NoneType" | .bl _ => some "bool" | .int _ => some "int" | .str _ => some "str" | .tup _ => some "tuple" | .lst _ => some "list" | _ => none
theorem rep_ty {K : PySem.W.Frag} {Z : Addr → Prop} {ph : List Addr} {H : Hp} {v : V} {d : D} {t : String} (r : RepV K Z ph H v d) (h : dTy d = some t) : TyX K H v (.type t) := by
  cases r with
  | non => cases h; exact .base .non
  | bl b => cases h; exact .base (.bl b)
  | int i => cases h; exact .base (.int i)
  | str x => cases h; exact .base (.str x)
  | tup h1 r =>
    cases h
    rcases h1 with (h1 | ⟨o, h1⟩) | ⟨o, its, n, h1, h2, _⟩
    · exact .base (.tup h1)
    · exact .fTuple h1
    · exact .kTuple h1 h2
  | lst h1 n z r => cases h; exact .base (.lst h1)
  | frz h1 r => cases h
  | ref h1 => cases h
theorem isi_kit {d : D} {t : Ty} {k : Bool} (h : isiD d t = some k) : ∃ s, dTy d = some s ∧ kitB s (tyS t) = some k := by
  cases d <;> cases t <;> simp only [isiD] at h <;> first | (cases h; refine ⟨_, rfl, ?_⟩; decide +kernel) | cases h
def rIsi_ (ra : RE) (t : Ty) : RE := fun env m => (ra env m).bind fun p => (isiD p.1 t).map fun k => (.bl k, p.2)
theorem n_isi {t : Ty} (hg : Gl X "isinstance") (hm : X.mg "isinstance" = none) (hg2 : Gl X (tyNm t)) (hm2 : X.mg (tyNm t) = none) (ha : PE X x (tEv X.K ra)) (hs : ∀ zs, starEach (x :: zs) X.env = (false, eval x X.env) :: starEach zs X.env) :
    PE X (.Call (.Name "isinstance" p) [x, .Name (tyNm t) p2] [] pos) (tEv X.K (rIsi_ ra t)) := by
  have hb : PE X (.Name (tyNm t) p2) (tC (.ty (tyS t))) := by
    cases t <;> exact pe_bltn hg2 hm2 (by decide +kernel) rfl (by decide) (by decide)
  refine pe_imp (pe_callB call_isi hg hm (by decide +kernel) (pa_cons ha (pa_cons hb pa_nil rfl) (hs _)) (by decide) (by decide) (hs _) rfl) fun σ H Q ⟨Z, ph, env, m, re, wd, d, m', e, q⟩ => ?_
  obtain ⟨p, h1, e⟩ := Option.bind_eq_some_iff.mp e
  obtain ⟨k, h2, e⟩ := Option.map_eq_some_iff.mp e
  cases e
  obtain ⟨s, h3, h4⟩ := isi_kit h2
  exact ev_of re wd h1 fun ph1 H1 v s1 w1 re1 r1 => ⟨v, .ty (tyS t), .type s, .type (tyS t), k, rfl, .ty _, rep_ty r1 h3, kit_ty h4, (q.after s1).here w1 (.bl _)⟩

/-! ### list(range(n)) -/
theorem rep_range {K : PySem.W.Frag} {Z : Addr → Prop} {ph : List Addr} {H : Hp} (lo : Int) : ∀ n : Nat, RepVs K Z ph H ((List.range n).map fun (i : Nat) => V.int (lo + (i : Int))) (rangeD lo n) := by
  intro n
  unfold rangeD
  generalize List.range n = l
  induction l with
  | nil => exact .nil
  | cons a l ih => exact .cons (.int _) ih
def rListRg_ (ra : RE) : RE := fun env m => (ra env m).bind fun p => match p.1 with
  | .int n => if rgOk n && decide (n.toNat ≤ lim) then some (.lst (rangeD 0 n.toNat), p.2) else none
  | _ => none
theorem n_listRgN (hc : X.calm = true) (hg : Gl X "list") (hm : X.mg "list" = none) (hg2 : Gl X "range") (hm2 : X.mg "range" = none) (ha : PE X x (tEv X.K ra)) (hs : starEach [x] X.env = (false, eval x X.env) :: starEach [] X.env) :
    PE X (.Call (.Name "list" p) [.Call (.Name "range" p2) [x] [] apos] [] pos) (tEvN X.K (rListRg_ ra)) :=
  pe_imp (pe_listRg hc hg hm (prg_1 hg2 hm2 ha hs) rfl) fun σ H Q ⟨Z, ph, env, m, re, wd, d, m', e, q⟩ => by
    obtain ⟨p, h1, e⟩ := Option.bind_eq_some_iff.mp e
    refine ev_of re wd h1 fun ph1 H1 v s1 w1 re1 r1 => ?_
    split at e
    · rename_i n hn
      rw [hn] at r1
      cases r1
      split at e
      · rename_i hk
        simp only [rgOk, Bool.and_eq_true, decide_eq_true_eq] at hk
        cases e
        refine ⟨n, rfl, ⟨by omega, by omega, hk.1.1, hk.1.2, ?_⟩, fun l hl => ?_⟩
        · have := hk.2
          unfold lim at this
          show (n - 0).toNat ≤ 2 ^ 24
          rw [Int.sub_zero]
          omega
        · have := rep_range (K := X.K) (Z := Z) (ph := ph1) (H := H1) 0 n.toNat
          have e : rgV 0 n = (List.range n.toNat).map fun (i : Nat) => V.int (0 + (i : Int)) := by unfold rgV; rw [Int.sub_zero]
          rw [e]
          exact (q.after s1).upd w1 hl this
      · cases e
    · cases e
theorem rListRg_lst {env : Env} {m m' : M} {d : D} (h : rListRg_ ra env m = some (d, m')) : ∃ ds, d = .lst ds := by
  obtain ⟨p, h1, e⟩ := Option.bind_eq_some_iff.mp h
  split at e
  · split at e
    · cases e; exact ⟨_, rfl⟩
    · cases e
  · cases e

/-! ### items, slices -/
def rIx_ (ra rb : RE) : RE := fun env m => (ra env m).bind fun p => (rb env p.2).bind fun q => (ixD q.2 p.1 q.1).map fun d => (d, q.2)
theorem ixAt_eq (n : Nat) (i : Int) : ixAt n i = ixN n i := rfl
theorem at_rep {K : PySem.W.Frag} {Z : Addr → Prop} {ph : List Addr} {H : Hp} {vs : List V} {ds : List D} {i : Int} {d : D} (r : RepVs K Z ph H vs ds) (h : atD ds i = some d) : ∃ v, atI vs i = some v ∧ RepV K Z ph H v d := by
  obtain ⟨j, h1, h2⟩ := Option.bind_eq_some_iff.mp h
  obtain ⟨v, h3, r1⟩ := r.get h2
  refine ⟨v, ?_, r1⟩
  unfold atI
  rw [r.len, ← ixAt_eq, h1]
  exact h3
theorem n_ix (ha : PE X x (tEv X.K ra)) (hb : PE X y (tEv X.K rb)) (hs : PlainIx y) : PE X (.Subscript x y pos) (tEv X.K (rIx_ ra rb)) :=
  pe_imp (pe_ix ix_seq ha hb hs) fun σ H Q ⟨Z, ph, env, m, re, wd, d, m', e, q⟩ => by
    obtain ⟨p, h1, e⟩ := Option.bind_eq_some_iff.mp e
    obtain ⟨p2, h2, e⟩ := Option.bind_eq_some_iff.mp e
    obtain ⟨z, h3, e⟩ := Option.map_eq_some_iff.mp e
    cases e
    refine ev_of re wd h1 fun ph1 H1 v s1 w1 re1 r1 => ev_of re1 w1 h2 fun ph2 H2 w s2 w2 re2 r2 => ?_
    have r1 := r1.mono s2
    unfold ixD at h3
    split at h3
    · rename_i i hi
      rw [hi] at r2
      cases r2
      split at h3
      · rename_i xs e
        obtain ⟨a, vs, rfl, h4, r4⟩ := rd_tup r1 e
        obtain ⟨u, h5, r5⟩ := at_rep r4 h3
        exact .inr (.inl ⟨a, vs, i, u, rfl, rfl, h4, h5, (q.after (s1.trans s2)).here w2 r5⟩)
      · rename_i xs e
        obtain ⟨a, vs, rfl, h4, r4⟩ := rd_lst w2 r1 e
        obtain ⟨u, h5, r5⟩ := at_rep r4 h3
        exact .inl ⟨a, vs, i, u, rfl, rfl, SqL.of h4, h5, (q.after (s1.trans s2)).here w2 r5⟩
      · rename_i xs e
        obtain ⟨a, vs, rfl, h4, r4⟩ := rd_frz r1 e
        obtain ⟨u, h5, r5⟩ := at_rep r4 h3
        exact .inl ⟨a, vs, i, u, rfl, rfl, h4.sqL, h5, (q.after (s1.trans s2)).here w2 r5⟩
      · rename_i t e
        split at h3
        · rename_i hl
          obtain ⟨c, h4, h5⟩ := Option.map_eq_some_iff.mp h3
          cases h5
          obtain rfl := rd_str r1 (by assumption)
          exact .inr (.inr ⟨t, i, c, rfl, rfl, by rw [← lim_eq]; exact hl, h4, (q.after (s1.trans s2)).here w2 (.str _)⟩)
        · cases h3
      · cases h3
    · cases h3
theorem sIx_eq (n d : Nat) (o : Option Int) : sIx n d o = HT.sIx n d o := by cases o <;> rfl
theorem cut_rep {K : PySem.W.Frag} {Z : Addr → Prop} {ph : List Addr} {H : Hp} {vs : List V} {ds : List D} (r : RepVs K Z ph H vs ds) (lo hi : Option Int) : RepVs K Z ph H (cutV vs lo hi) (cutD ds lo hi) := by
  unfold cutV cutD
  rw [r.len, sIx_eq, sIx_eq]
  exact (r.drop _).take _
def tEvO (K : PySem.W.Frag) (r : Env → M → Option (Option Int × M)) : TO := fun σ H Q => ∃ Z ph env m, RepE K Z ph H σ env ∧ Wd K Z ph m H ∧ ∃ i m', r env m = some (i, m') ∧ ∀ ph' H', Sx ph H ph' H' → Wd K Z ph' m' H' → Q i H'
theorem po_imp {e : Option Expr} {t t' : TO} (h : PO X e t) (i : ∀ σ H Q, t' σ H Q → t σ H Q) : PO X e t' := ⟨fun pins s σ H Q I w => h.run pins s σ H Q I (i σ H Q w)⟩
theorem o_none {r : RE} : PO X none (tEvO X.K (partO r true)) := po_imp po_none fun σ H Q ⟨Z, ph, env, m, re, wd, d, m', e, q⟩ => by
  simp only [partO, if_true] at e
  cases e
  exact q ph H Sx.refl wd
theorem o_some (ha : PE X x (tEv X.K ra)) : PO X (some x) (tEvO X.K (partO ra false)) := po_imp (po_some ha) fun σ H Q ⟨Z, ph, env, m, re, wd, d, m', e, q⟩ => by
  simp only [partO, Bool.false_eq_true, if_false] at e
  obtain ⟨p, h1, e⟩ := Option.bind_eq_some_iff.mp e
  refine ev_of re wd h1 fun ph1 H1 v s1 w1 re1 r1 => ?_
  split at e
  · rename_i i hi
    rw [hi] at r1
    cases r1
    cases e
    exact ⟨i, rfl, q ph1 H1 s1 w1⟩
  · cases e
def rSl_ (ra : RE) (rl rh : Env → M → Option (Option Int × M)) : RE := fun env m => (ra env m).bind fun p => (rl env p.2).bind fun l => (rh env l.2).bind fun h => (slD h.2 p.1 l.1 h.1).map fun d => (d, h.2)
theorem n_sl {l h : Option Expr} {rl rh : Env → M → Option (Option Int × M)} (ha : PE X x (tEv X.K ra)) (hl : PO X l (tEvO X.K rl)) (hh : PO X h (tEvO X.K rh)) : PE X (.Subscript x (.Slice l h none p2) pos) (tEv X.K (rSl_ ra rl rh)) :=
  pe_imp (pe_slice ((sl_tupA.or sl_list).or sl_str) ha hl hh) fun σ H Q ⟨Z, ph, env, m, re, wd, d, m', e, q⟩ => by
    obtain ⟨p, h1, e⟩ := Option.bind_eq_some_iff.mp e
    obtain ⟨lo, h2, e⟩ := Option.bind_eq_some_iff.mp e
    obtain ⟨hi, h3, e⟩ := Option.bind_eq_some_iff.mp e
    obtain ⟨z, h4, e⟩ := Option.map_eq_some_iff.mp e
    cases e
    refine ev_of re wd h1 fun ph1 H1 v s1 w1 re1 r1 => ⟨Z, ph1, env, p.2, re1, w1, lo.1, lo.2, h2, fun ph2 H2 s2 w2 => ⟨Z, ph2, env, lo.2, re1.mono s2, w2, hi.1, hi.2, h3, fun ph3 H3 s3 w3 => ?_⟩⟩
    have r1 := (r1.mono s2).mono s3
    have q := q.after ((s1.trans s2).trans s3)
    unfold slD at h4
    split at h4
    · rename_i xs he
      cases h4
      obtain ⟨a, vs, rfl, h4, r4⟩ := rd_tup r1 he
      refine .inl (.inl ⟨a, vs, rfl, h4, fun ⟨e1, e2⟩ => ?_, fun _ b hb => q.tup w3 hb (cut_rep r4 _ _)⟩)
      have ec : cutD xs lo.1 hi.1 = xs := by
        unfold cutD
        rw [r4.len, ← sIx_eq] at e1
        rw [r4.len, ← sIx_eq] at e2
        rw [e1, e2, List.drop_zero, Nat.sub_zero, List.take_length]
      rw [ec] at q
      exact q.here w3 (.tup h4 r4)
    · rename_i xs he
      cases h4
      obtain ⟨a, vs, rfl, h4, r4⟩ := rd_lst w3 r1 he
      exact .inl (.inr ⟨a, vs, rfl, SqL.of h4, fun b hb => (q.np w3).upd w3 hb (cut_rep r4 _ _)⟩)
    · rename_i xs he
      cases h4
      obtain ⟨a, vs, rfl, h4, r4⟩ := rd_frz r1 he
      exact .inl (.inr ⟨a, vs, rfl, h4.sqL, fun b hb => (q.np w3).upd w3 hb (cut_rep r4 _ _)⟩)
    · rename_i z he
      split at h4
      · rename_i hz
        cases h4
        obtain rfl := rd_str r1 he
        have ec : cutT z lo.1 hi.1 = cutS z lo.1 hi.1 := by unfold cutT cutS; rw [sIx_eq, sIx_eq]
        rw [ec] at q
        exact .inr ⟨z, rfl, by rw [← lim_eq]; exact hz, q.here w3 (.str _)⟩
      · cases h4
    · cases h4

/-! ### list methods -/
def rPop_ (ra : RE) : RE := fun env m => (ra env m).bind fun p => match p.1 with
  | .ref l => match p.2[l]? with
    | some (.lst xs) => match xs[xs.length - 1]? with
      | some y => some (y, p.2.set l (.lst xs.dropLast))
      | none => none
    | none => none
  | _ => none
theorem w_put {K : PySem.W.Frag} {Z : Addr → Prop} {ph ph0 : List Addr} {H H0 : Hp} {m : M} {l : Nat} {a : Addr} {us : List V} {es : List D} {v : V} {z : D} {Q : VK} (wd : Wd K Z ph m H) (ha : ph[l]? = some a) (r : RepVs K Z ph H us es) (rv : RepV K Z ph H v z) (q : PV K Z ph H (m.set l (.lst es)) z Q) : Q v (L2.upd H a (.lst us)) :=
  q ph _ v (Sx.write wd ha) (wd.write ha r) (rv.mono (Sx.write wd ha))
theorem n_pop {sv : Str} {ps : Pos} (ha : PE X (.Name sv ps) (tEv X.K ra)) (hl : (apos.endLine == pos.line) = true) : PE X (.Call (.Attribute (.Name sv ps) "pop" apos) [] [] pos) (tEv X.K (rPop_ ra)) :=
  pe_imp (pe_bm0 PySem.F.plainAttrs_list PySem.F.slot_list_pop PySem.F.type_list_pop mt_pop ha rfl hl) fun σ H Q ⟨Z, ph, env, m, re, wd, d, m', e, q⟩ => by
    obtain ⟨p, h1, e⟩ := Option.bind_eq_some_iff.mp e
    refine ev_of re wd h1 fun ph1 H1 v s1 w1 re1 r1 => ?_
    split at e
    · rename_i l hp
      rw [hp] at r1
      cases r1 with
      | @ref a l ha =>
        split at e
        · rename_i xs hx
          split at e
          · rename_i y hy
            cases e
            obtain ⟨vs, h2, r2⟩ := w1.at hx ha
            obtain ⟨u, h3, r3⟩ := r2.get hy
            refine ⟨.inl ⟨rfl, _, SqL.of h2⟩, a, vs, u, rfl, rfl, h2, by rw [r2.len]; exact h3, ?_⟩
            exact w_put (ph0 := ph1) (H0 := H1) w1 ha r2.dropLast r3 (q.after s1)
          · cases e
        · cases e
    · cases e
def rPopAt_ (ra rb : RE) : RE := fun env m => (ra env m).bind fun p => (rb env p.2).bind fun q => match p.1, q.1 with
  | .ref l, .int i => match q.2[l]? with
    | some (.lst xs) => match ixAt xs.length i with
      | some k => match xs[k]? with
        | some y => if decide (-(2 ^ 63) ≤ i) && decide (i < 2 ^ 63) then some (y, q.2.set l (.lst (xs.eraseIdx k))) else none
        | none => none
      | none => none
    | none => none
  | _, _ => none
theorem few1 {y : Expr} (hs : starEach [y] X.env = (false, eval y X.env) :: starEach [] X.env) : ((backTo pos (starEach [y] X.env)).all (fun x => !x.1) && (backToKw pos (keywordEach [] X.env)).all (fun x => x.1.isSome)
      && decide (([y]).length + ([] : List Keyword).length + (if ([] : List Keyword).isEmpty then 0 else 1) < 30)) = true := by
  rw [hs]; rfl
theorem n_popAt {sv : Str} {ps : Pos} (ha : PE X (.Name sv ps) (tEv X.K ra)) (hb : PE X y (tEv X.K rb)) (hl : (apos.endLine == pos.line) = true) (hs : starEach [y] X.env = (false, eval y X.env) :: starEach [] X.env) :
    PE X (.Call (.Attribute (.Name sv ps) "pop" apos) [y] [] pos) (tEv X.K (rPopAt_ ra rb)) :=
  pe_imp (pe_bm PySem.F.plainAttrs_list PySem.F.slot_list_pop PySem.F.type_list_pop mt_popAt ha (pa_cons hb pa_nil hs) rfl (few1 hs) hl hs rfl) fun σ H Q ⟨Z, ph, env, m, re, wd, d, m', e, q⟩ => by
    obtain ⟨p, h1, e⟩ := Option.bind_eq_some_iff.mp e
    obtain ⟨p2, h2, e⟩ := Option.bind_eq_some_iff.mp e
    split at e
    · rename_i l i hp hi
      refine ev_of re wd h1 fun ph1 H1 v s1 w1 re1 r1 => ?_
      have r1' := r1
      rw [hp] at r1
      cases r1 with
      | @ref a l ha =>
        have hm : ∃ vs, H1 a = some (.lst vs) := w1.lst (List.mem_of_getElem? ha)
        obtain ⟨vs0, hv0⟩ := hm
        refine ⟨.inl ⟨rfl, _, SqL.of hv0⟩, ev_of re1 w1 h2 fun ph2 H2 w s2 w2 re2 r2 => ?_⟩
        have ha2 : ph2[l]? = some a := by
          obtain ⟨x, ex⟩ := s2.ext
          rw [ex, List.getElem?_append_left (List.getElem?_eq_some_iff.mp ha).1]
          exact ha
        rw [hi] at r2
        cases r2
        split at e
        · rename_i xs hx
          split at e
          · rename_i k hk
            split at e
            · rename_i z hz
              split at e
              · rename_i hb
                simp only [Bool.and_eq_true, decide_eq_true_eq] at hb
                cases e
                obtain ⟨vs, h3, r3⟩ := w2.at hx ha2
                obtain ⟨u, h4, r4⟩ := r3.get hz
                refine ⟨a, vs, i, k, u, rfl, rfl, h3, hb.1, hb.2, by rw [r3.len]; exact (ixN_seq hk).1, h4, ?_⟩
                exact w_put (ph0 := ph1) (H0 := H1) w2 ha2 (r3.erase k) r4 (q.after (s1.trans s2))
              · cases e
            · cases e
          · cases e
        · cases e
    · cases e
def rAppend_ (ra rb : RE) : RE := fun env m => (ra env m).bind fun p => (rb env p.2).bind fun q => match p.1 with
  | .ref l => match q.2[l]? with
    | some (.lst xs) => if xs.length < lim then some (.non, q.2.set l (.lst (xs ++ [q.1]))) else none
    | none => none
  | _ => none
theorem n_append {sv : Str} {ps : Pos} (ha : PE X (.Name sv ps) (tEv X.K ra)) (hb : PE X y (tEv X.K rb)) (hl : (apos.endLine == pos.line) = true) (hs : starEach [y] X.env = (false, eval y X.env) :: starEach [] X.env) :
    PE X (.Call (.Attribute (.Name sv ps) "append" apos) [y] [] pos) (tEv X.K (rAppend_ ra rb)) :=
  pe_imp (pe_bm PySem.F.plainAttrs_list PySem.F.slot_list_append PySem.F.type_list_append mt_append ha (pa_cons hb pa_nil hs) rfl (few1 hs) hl hs rfl) fun σ H Q ⟨Z, ph, env, m, re, wd, d, m', e, q⟩ => by
    obtain ⟨p, h1, e⟩ := Option.bind_eq_some_iff.mp e
    obtain ⟨p2, h2, e⟩ := Option.bind_eq_some_iff.mp e
    split at e
    · rename_i l hp
      refine ev_of re wd h1 fun ph1 H1 v s1 w1 re1 r1 => ?_
      rw [hp] at r1
      cases r1 with
      | @ref a l ha =>
        have hm : ∃ vs, H1 a = some (.lst vs) := w1.lst (List.mem_of_getElem? ha)
        obtain ⟨vs0, hv0⟩ := hm
        refine ⟨.inl ⟨rfl, _, SqL.of hv0⟩, ev_of re1 w1 h2 fun ph2 H2 w s2 w2 re2 r2 => ?_⟩
        have ha2 : ph2[l]? = some a := by
          obtain ⟨x, ex⟩ := s2.ext
          rw [ex, List.getElem?_append_left (List.getElem?_eq_some_iff.mp ha).1]
          exact ha
        split at e
        · rename_i xs hx
          split at e
          · rename_i hb
            cases e
            obtain ⟨vs, h3, r3⟩ := w2.at hx ha2
            refine ⟨a, vs, w, rfl, rfl, h3, by rw [r3.len, ← lim_eq]; exact hb, ?_⟩
            exact w_put (ph0 := ph1) (H0 := H1) w2 ha2 (r3.append (.cons r2 .nil)) .non (q.after (s1.trans s2))
          · cases e
        · cases e
    · cases e
end
end Pv

namespace Pv
open PySem PySem.Spec PyProof.Rows L2
section
variable {X : Cx} {x y w e : Expr} {te : TE} {pos : Pos} {ra rb rc : RE}
theorem rev_all (z : Str) : ((Builtin.Str.strSliceIndices none none (-1) z.length).filterMap (z.cps[·]?)).toArray = (revT z).cps := by
  rw [PyProof.Rows.picked_rev, PySem.W.krv_range]
  show ((List.range z.cps.size).reverse.filterMap (z.cps[·]?)).toArray = z.cps.toList.reverse.toArray
  rw [List.filterMap_reverse, PySem.W.krv_all]
theorem pe_revA {k : Nat} {p1 p2 p3 : Pos} (he : PE X e te) : PE X (.Subscript e (.Slice none none (some (.UnaryOp .USub (.Constant (.int 1) k p1) p2)) p3) pos) (fun σ H Q => te σ H fun x H1 =>
    (∃ a xs, x = .ref a ∧ SqL X.K H1 a xs ∧ ∀ p, H1 p = none → Q (.ref p) (upd H1 p (.lst xs.reverse))) ∨ ∃ z, x = .str z ∧ z.length ≤ sizeLine ∧ Q (.str (revT z)) H1) := by
  refine ⟨fun pins s σ H Q I h => ?_⟩
  refine Subscript_ (thn (he.run pins s σ H _ I h) fun v s1 ⟨x, H1, I1, r1, q1⟩ => ?_)
  have hst : PO X (some (.UnaryOp .USub (.Constant (.int 1) k p1) p2)) (tPart (tUn (rU fun i => .int (-i)) (tC (.int 1)))) := po_some (pe_un un_neg pe_int)
  refine wpAny_Slice (thn (po_none.run pins s1 σ H1 (fun o H2 => o = none ∧ H2 = H1) I1 ⟨rfl, rfl⟩) fun vl s2 ⟨l, H2, I2, pl, el, e2⟩ => ?_)
  subst el e2
  refine thn (po_none.run pins s2 σ H2 (fun o H3 => o = none ∧ H3 = H2) I2 ⟨rfl, rfl⟩) fun vu s3 ⟨u, H3, I3, pu, eu, e3⟩ => ?_
  subst eu e3
  refine thn (hst.run pins s3 σ H3 (fun o H4 => o = some (-1) ∧ H4 = H3) I3 ⟨1, rfl, -1, rfl, rfl, rfl⟩) fun vs s4 ⟨o, H4, I4, ps, eo, e4⟩ => ?_
  subst eo e4
  have I5 : Inv X pins σ H4 { s4 with heap := s4.heap.push { cls := .type "slice", data := .fields #[vl, vu, vs] } } := I4.kept (t' := s4.toks) fun b ob q => Heap.get?_push_of_some _ q
  show wpAny (model X.prog X.w) X.A (subscriptTail e (.Slice none none (some (.UnaryOp .USub (.Constant (.int 1) k p1) p2)) p3) v (.ref s4.heap.objs.size)) (EP X pins σ Q) X.xe { s4 with heap := s4.heap.push { cls := .type "slice", data := .fields #[vl, vu, vs] } }
  rcases q1 with ⟨a, xs, ex, hx, q⟩ | ⟨z, ex, hz, q⟩
  · subst ex
    cases r1
    obtain ⟨its, r, ht, hz⟩ := I5.list hx
    have hlen := r.length
    refine tail_any (ops := [.ref a, .ref s4.heap.objs.size]) ht.isList.typeIs (PySem.slot_list_getitem.lookup) ?_ (by with_unfolding_all rfl)
    refine wpAny_getItem_list_slice ht.isList (Heap.IsSliceOf.new _ vl vu vs) pl pu ps (by decide) ?_ (by rw [List.size_toArray]; omega)
    rw [PySem.W.krv_pick]
    refine ⟨.ref _, _, I5.laid (t' := s4.toks) (o := .lst xs.reverse) (fun b ob q => Heap.get?_push_of_some _ q) (Nat.le_refl _) ?_, rfl, q _ (I5.hok.fresh (Nat.le_refl _))⟩
    exact ⟨by rw [List.length_reverse]; exact hz, _, 0, r.reverse, Heap.get?_push_size _ rfl⟩
  · subst ex
    obtain ⟨t, rfl⟩ := r1
    obtain ⟨l, rfl, hl⟩ := IsPart.raw pl
    obtain ⟨u, rfl, hu⟩ := IsPart.raw pu
    obtain ⟨st, rfl, hst⟩ := IsPart.raw ps
    refine tail_any (ops := [.ref s4.heap.objs.size, .str z t]) (typeIs_str _ _ _) (F.slot_str_getitem.lookup) ?_ (by with_unfolding_all rfl)
    refine wpAny_getItem_str_slice (l := l) (u := u) (st := st) ⟨_, Heap.get?_push_size _ rfl, rfl, rfl⟩ (by rw [hst]; rfl) ?_
    have e1 : sliceMade z t l u st = Made.str (revT z) := by
      unfold sliceMade slicePicked
      rw [hst, hl, hu]
      show (if (((-1 : Int) == 1) && _) = true then _ else Made.str ⟨((Builtin.Str.strSliceIndices none none (-1) z.length).filterMap (z.cps[·]?)).toArray⟩) = _
      rw [if_neg (by simp), rev_all]
    rw [e1]
    refine ⟨?_, .str _, H4, I5.tok _, ⟨_, rfl⟩, q⟩
    show (z.cps.toList.reverse.toArray).size ≤ sizeLine
    rw [List.size_toArray, List.length_reverse, Array.length_toList]
    exact hz
def rRev_ (ra : RE) : RE := fun env m => (ra env m).bind fun p => (revD p.2 p.1).map fun d => (d, p.2)
theorem rep_rev {K : PySem.W.Frag} {Z : Addr → Prop} {ph : List Addr} {H : Hp} : ∀ {vs : List V} {ds : List D}, RepVs K Z ph H vs ds → RepVs K Z ph H vs.reverse ds.reverse
  | _, _, .nil => .nil
  | v :: vs, d :: ds, .cons h r => by
    rw [List.reverse_cons, List.reverse_cons]
    exact (rep_rev r).append (.cons h .nil)
theorem n_rev {k : Nat} {p1 p2 p3 : Pos} (ha : PE X x (tEv X.K ra)) : PE X (.Subscript x (.Slice none none (some (.UnaryOp .USub (.Constant (.int 1) k p1) p2)) p3) pos) (tEv X.K (rRev_ ra)) :=
  pe_imp (pe_revA ha) fun σ H Q ⟨Z, ph, env, m, re, wd, d, m', e, q⟩ => by
    obtain ⟨p, h1, e⟩ := Option.bind_eq_some_iff.mp e
    obtain ⟨z, h2, e⟩ := Option.map_eq_some_iff.mp e
    cases e
    refine ev_of re wd h1 fun ph1 H1 v s1 w1 re1 r1 => ?_
    have q := q.after s1
    unfold revD at h2
    split at h2
    · rename_i xs he
      cases h2
      obtain ⟨a, vs, rfl, h4, r4⟩ := rd_lst w1 r1 he
      exact .inl ⟨a, vs, rfl, SqL.of h4, fun b hb => (q.np w1).upd w1 hb (rep_rev r4)⟩
    · rename_i z he
      split at h2
      · rename_i hz
        cases h2
        obtain rfl := rd_str r1 he
        exact .inr ⟨z, rfl, by rw [← lim_eq]; exact hz, q.here w1 (.str _)⟩
      · cases h2
    · cases h2
theorem strs_rep {K : PySem.W.Frag} {Z : Addr → Prop} {ph : List Addr} {H : Hp} : ∀ {ds : List D} {ns : List Str} {vs : List V}, strsD ds = some ns → RepVs K Z ph H vs ds → vs = ns.map V.str
  | [], ns, vs, h, r => by cases h; cases r; rfl
  | d :: ds, ns, vs, h, r => by
    cases r with
    | cons h0 r =>
      cases d <;> simp only [strsD] at h <;> try cases h
      obtain ⟨ms, h1, rfl⟩ := Option.map_eq_some_iff.mp h
      cases h0
      rw [strs_rep h1 r]
      rfl
def rJoin_ (ra rb : RE) : RE := fun env m => (ra env m).bind fun p => (rb env p.2).bind fun q => (joinD q.2 p.1 q.1).map fun d => (d, q.2)
theorem n_join {c : Const} {k : Nat} {pc apos : Pos} (ha : PE X (.Constant c k pc) (tEv X.K ra)) (hb : PE X y (tEv X.K rb)) (hl : (apos.endLine == pos.line) = true) (hs : starEach [y] X.env = [(false, eval y X.env)]) :
    PE X (.Call (.Attribute (.Constant c k pc) "join" apos) [y] [] pos) (tEv X.K (rJoin_ ra rb)) :=
  pe_imp (pe_join ha hb hs rfl hl) fun σ H Q ⟨Z, ph, env, m, re, wd, d, m', e, q⟩ => by
    obtain ⟨p, h1, e⟩ := Option.bind_eq_some_iff.mp e
    obtain ⟨p2, h2, e⟩ := Option.bind_eq_some_iff.mp e
    obtain ⟨d', h3, e⟩ := Option.map_eq_some_iff.mp e
    cases e
    have hs : ∃ a, p.1 = .str a := by
      unfold joinD at h3
      split at h3
      · exact ⟨_, ‹_›⟩
      · cases h3
    obtain ⟨a, hp⟩ := hs
    rw [hp] at h3
    refine ev_of re wd h1 fun ph1 H1 v s1 w1 re1 r1 => ?_
    rw [hp] at r1
    cases r1
    refine ⟨⟨a, rfl⟩, ev_of re1 w1 h2 fun ph2 H2 w s2 w2 re2 r2 => ?_⟩
    have q := q.after (s1.trans s2)
    · simp only [joinD] at h3
      obtain ⟨ys, e1, h3⟩ := Option.bind_eq_some_iff.mp h3
      obtain ⟨ss, e2, h3⟩ := Option.bind_eq_some_iff.mp h3
      split at h3
      · rename_i hz
        cases h3
        obtain ⟨b, ws, rfl, h4, r4⟩ := rd_seq w2 r2 e1
        rw [strs_rep e2 r4] at h4
        rw [← TL.join_eq] at q
        exact ⟨a, b, ss, rfl, rfl, h4, hz, q.here w2 (.str _)⟩
      · cases h3
def rFmt_ (ra : RE) : RE := fun env m => (ra env m).bind fun p => (txtD p.1).map fun d => (d, p.2)
theorem n_fmt (ha : PE X x (tEv X.K ra)) : PE X (.FormattedValue x (-1) none pos) (tEv X.K (rFmt_ ra)) :=
  pe_imp (pe_fmt ha) fun σ H Q ⟨Z, ph, env, m, re, wd, d, m', e, q⟩ => by
    obtain ⟨p, h1, e⟩ := Option.bind_eq_some_iff.mp e
    obtain ⟨z, h2, e⟩ := Option.map_eq_some_iff.mp e
    cases e
    refine ev_of re wd h1 fun ph1 H1 v s1 w1 re1 r1 => ?_
    have q := q.after s1
    unfold txtD at h2
    split at h2
    · rename_i z he
      split at h2
      · rename_i hz
        cases h2
        rw [he] at r1
        cases r1
        exact .inl ⟨z, rfl, by rw [← lim_eq]; exact hz, q.here w1 (.str _)⟩
      · cases h2
    · rename_i i he
      split at h2
      · rename_i hz
        cases h2
        rw [he] at r1
        cases r1
        exact .inr ⟨i, rfl, hz, q.here w1 (.str _)⟩
      · cases h2
    · cases h2
section
variable (K : PySem.W.Frag) (F : Fn) (G : List D)
def tesOf : Es → List TE
  | .nil => []
  | .cons e es => tEv K (fun env m => evE F G e env m) :: tesOf es
end
theorem js_run {K : PySem.W.Frag} {F : Fn} {G : List D} {σ : L2.St} {Q : Str → Hp → Prop} {Z : Addr → Prop} {env : Env} : ∀ (as : Es) (acc : Str) {ph : List Addr} {H : Hp} {m m' : M} {ds : List D} {out : Str}, RepE K Z ph H σ env → Wd K Z ph m H → evA F G as env m = some (ds, m') → gluD acc ds = some out →
    (∀ ph' H', Sx ph H ph' H' → Wd K Z ph' m' H' → Q out H') → tJs (tesOf K F G as) acc σ H Q
  | .nil, acc, ph, H, m, m', ds, out, re, wd, h, hg, q => by
    rw [evA] at h
    cases h
    cases hg
    exact q ph H Sx.refl wd
  | .cons e es, acc, ph, H, m, m', ds, out, re, wd, h, hg, q => by
    rw [evA] at h
    obtain ⟨p, h1, h⟩ := Option.bind_eq_some_iff.mp h
    obtain ⟨p2, h2, h⟩ := Option.bind_eq_some_iff.mp h
    cases h
    refine ev_of re wd h1 fun ph1 H1 v s1 w1 re1 r1 => ?_
    cases hp : p.1 with
    | str y =>
      rw [hp] at hg r1
      simp only [gluD] at hg
      split at hg
      · rename_i hz
        cases r1
        exact ⟨y, rfl, by rw [← lim_eq]; exact hz, js_run es _ re1 w1 h2 hg fun ph' H' s w => q ph' H' (s1.trans s) w⟩
      · cases hg
    | _ =>
      rw [hp] at hg
      simp only [gluD] at hg
      cases hg
theorem n_fstr {F : Fn} {G : List D} {as : Es} {z : Expr} {r : List Expr} (h : PJ X (y :: z :: r) (tesOf X.K F G as)) : PE X (.JoinedStr (y :: z :: r) pos) (tEv X.K fun env m => (evA F G as env m).bind fun p => (gluD Str.empty p.1).map fun d => (.str d, p.2)) :=
  pe_imp (pe_joined h) fun σ H Q ⟨Z, ph, env, m, re, wd, d, m', e, q⟩ => by
    obtain ⟨p, h1, e⟩ := Option.bind_eq_some_iff.mp e
    obtain ⟨out, h2, e⟩ := Option.map_eq_some_iff.mp e
    cases e
    exact js_run as Str.empty re wd h1 h2 fun ph' H' s w => (q.after s).here w (.str _)
end
end Pv

namespace Pv
open PySem L2

/-! ## targets -/
theorem wipe_get (σ : L2.St) : ∀ (l : List Nat) (j : Nat), (wipe σ l)[j]? = if j ∈ l then (σ[j]?).map (fun _ => none) else σ[j]?
  | [], j => by simp [wipe]
  | v :: l, j => by
    unfold wipe
    by_cases e : v = j
    · subst e
      rw [if_pos (by simp)]
      by_cases h : v < (wipe σ l).length
      · rw [List.getElem?_set_self h]
        rw [wipe_length] at h
        rw [List.getElem?_eq_getElem h]; rfl
      · rw [List.getElem?_eq_none (by simpa using h)]
        rw [wipe_length] at h
        rw [List.getElem?_eq_none (by omega)]; rfl
    · rw [List.getElem?_set_ne e, wipe_get σ l j]
      by_cases h : j ∈ l
      · rw [if_pos h, if_pos (by simp [h])]
      · rw [if_neg h, if_neg (by simp [h]; exact fun q => e q.symm)]
theorem wipe_set {σ : L2.St} {i : Nat} {o : Option V} {l : List Nat} (h : i ∈ l) : wipe (σ.set i o) l = wipe σ l := by
  apply List.ext_getElem?
  intro j
  rw [wipe_get, wipe_get]
  by_cases e : i = j
  · subst e
    rw [if_pos h, if_pos h]
    by_cases q : i < σ.length
    · rw [List.getElem?_set_self q, List.getElem?_eq_getElem q]; rfl
    · rw [List.getElem?_eq_none (by simpa using q), List.getElem?_eq_none (by omega)]
  · rw [List.getElem?_set_ne e]
theorem wipe_wipe (σ : L2.St) (l : List Nat) : wipe (wipe σ l) l = wipe σ l := by
  apply List.ext_getElem?
  intro j
  rw [wipe_get, wipe_get]
  by_cases h : j ∈ l
  · rw [if_pos h, if_pos h]
    cases σ[j]? <;> rfl
  · rw [if_neg h, if_neg h]
mutual
def tgIn (l : List Nat) : Tg → Bool
  | .nm i => decide (i ∈ l)
  | .tp ts => tgsIn l ts
  | .up ts => tgsIn l ts
def tgsIn (l : List Nat) : Tgs → Bool
  | .nil => true
  | .cons t ts => tgIn l t && tgsIn l ts
end
def gT (K : PySem.W.Frag) (t : Tg) : TG := fun v σ H Q => ∃ Z ph env m d env', RepE K Z ph H σ env ∧ Wd K Z ph m H ∧ RepV K Z ph H v d ∧ bindTg m t d env = some env' ∧
  ∀ σ', RepE K Z ph H σ' env' → (∀ l, tgIn l t = true → wipe σ' l = wipe σ l) → Q σ' H
def gTs (K : PySem.W.Frag) (ts : Tgs) : TGs := fun vs σ H Q => ∃ Z ph env m ds env', RepE K Z ph H σ env ∧ Wd K Z ph m H ∧ RepVs K Z ph H vs ds ∧ bindTgs m ts ds env = some env' ∧
  ∀ σ', RepE K Z ph H σ' env' → (∀ l, tgsIn l ts = true → wipe σ' l = wipe σ l) → Q σ' H
theorem pg_imp {X : Cx} {x : Expr} {t t' : TG} (h : PG X x t) (i : ∀ v σ H Q, t' v σ H Q → t v σ H Q) : PG X x t' := ⟨fun pins s σ H v u Q I r w => h.run pins s σ H v u Q I r (i v σ H Q w)⟩
theorem pgs_imp {X : Cx} {x : List Expr} {t t' : TGs} (h : PGs X x t) (i : ∀ v σ H Q, t' v σ H Q → t v σ H Q) : PGs X x t' := ⟨fun pins s σ H v u Q I r w => h.run pins s σ H v u Q I r (i v σ H Q w)⟩
def locB (S : Sx_) (x : Str) : Bool := match S.sc.names.lookup x with
  | some .local => true
  | some .cell => S.fb x
  | _ => false
theorem locB_ok {X : Cx} {S : Sx_} (hX : XOk X S) {x : Str} (h : locB S x = true) : L2.Loc X.env.scope x ∧ (X.fn x = true ∨ X.env.scope.names.lookup x = some .local) := by
  unfold locB at h
  unfold L2.Loc
  rw [hX.sc, hX.fb]
  split at h
  · rename_i e; exact ⟨.inl e, .inr e⟩
  · rename_i e; exact ⟨.inr e, .inl h⟩
  · cases h
mutual
def isTg (S : Sx_) : Tg → Expr → Bool
  | .nm i, .Name x _ => decide (S.N[i]? = some x) && locB S x
  | .tp ts, .Tuple xs _ _ => isTgs S ts xs
  | .up ts, .Tuple xs _ _ => isTgs S ts xs
  | _, _ => false
def isTgs (S : Sx_) : Tgs → List Expr → Bool
  | .nil, [] => true
  | .cons t ts, x :: xs => isTg S t x && isTgs S ts xs
  | _, _ => false
end
theorem isTg_each {S : Sx_} {t : Tg} {x : Expr} (h : isTg S t x = true) (xs : List Expr) (env : PySem.Env) : assignEach (x :: xs) env = (false, assign x env) :: assignEach xs env := by
  cases t <;> cases x <;> first | rfl | (simp [isTg] at h)
theorem isTgs_each {S : Sx_} : ∀ {ts : Tgs} {xs : List Expr}, isTgs S ts xs = true → ∀ env : PySem.Env, (assignEach xs env).length = xs.length ∧ (assignEach xs env).findIdx? (·.1) = none
  | .nil, [], _, env => ⟨rfl, rfl⟩
  | .cons t ts, x :: xs, h, env => by
    simp only [isTgs, Bool.and_eq_true] at h
    obtain ⟨h1, h2⟩ := isTgs_each h.2 env
    rw [isTg_each h.1]
    refine ⟨by simp [h1], ?_⟩
    rw [List.findIdx?_cons, h2]
    rfl
  | .nil, _ :: _, h, _ => by simp [isTgs] at h
  | .cons _ _, [], h, _ => by simp [isTgs] at h
theorem bindTgs_len {m : M} {S : Sx_} : ∀ {ts : Tgs} {ds : List D} {env env' : Env} {xs : List Expr}, isTgs S ts xs = true → bindTgs m ts ds env = some env' → ds.length = xs.length
  | .nil, [], _, _, [], _, _ => rfl
  | .cons t ts, d :: ds, env, env', x :: xs, h, e => by
    simp only [isTgs, Bool.and_eq_true] at h
    simp only [bindTgs] at e
    obtain ⟨e1, h1, e⟩ := Option.bind_eq_some_iff.mp e
    simp [bindTgs_len h.2 e]
  | .nil, _ :: _, _, _, _, _, e => by simp [bindTgs] at e
  | .cons _ _, [], _, _, _, _, e => by simp [bindTgs] at e
  | .nil, [], _, _, _ :: _, h, _ => by simp [isTgs] at h
  | .cons _ _, _ :: _, _, _, [], h, _ => by simp [isTgs] at h
mutual
theorem okTg {X : Cx} {S : Sx_} (hX : XOk X S) : ∀ (t : Tg) (x : Expr), isTg S t x = true → PG X x (gT X.K t)
  | .nm i, .Name x _, h => by
    simp only [isTg, Bool.and_eq_true, decide_eq_true_eq] at h
    obtain ⟨h1, h2⟩ := locB_ok hX h.2
    exact pg_imp (pg_name (i := i) hX.nd (by rw [hX.n]; exact h.1) h1 h2) fun v σ H Q ⟨Z, ph, env, m, d, env', re, wd, r, e, q⟩ => by
      simp only [bindTg] at e
      cases e
      refine q _ (re.set r i) fun l hl => ?_
      simp only [tgIn, decide_eq_true_eq] at hl
      exact wipe_set hl
  | .tp ts, .Tuple xs _ _, h => by
    simp only [isTg] at h
    obtain ⟨h1, h2⟩ := isTgs_each h X.env
    exact pg_imp (pg_tup (n := xs.length) hX.calm (okTgs hX ts xs h) h1 h2) fun v σ H Q ⟨Z, ph, env, m, d, env', re, wd, r, e, q⟩ => by
      cases d <;> simp only [bindTg] at e <;> try cases e
      cases r with
      | tup h3 r => exact ⟨_, _, rfl, h3, by rw [r.len]; exact bindTgs_len h e, Z, ph, env, m, _, env', re, wd, r, e, fun σ' r' hw => q σ' r' fun l hl => hw l (by simpa [tgIn] using hl)⟩
  | .up ts, .Tuple xs _ _, h => by
    simp only [isTg] at h
    obtain ⟨h1, h2⟩ := isTgs_each h X.env
    exact pg_imp (pg_unl (n := xs.length) hX.calm (okTgs hX ts xs h) h1 h2) fun v σ H Q ⟨Z, ph, env, m, d, env', re, wd, r, e, q⟩ => by
      simp only [bindTg] at e
      split at e
      · rename_i ds hd
        obtain ⟨a, vs, rfl, h3, r⟩ := rd_lst wd r hd
        exact ⟨_, _, rfl, SqL.of h3, by rw [r.len]; exact bindTgs_len h e, Z, ph, env, m, _, env', re, wd, r, e, fun σ' r' hw => q σ' r' fun l hl => hw l (by simpa [tgIn] using hl)⟩
      · cases e
  | .nm _, .BoolOp .., h | .nm _, .NamedExpr .., h | .nm _, .BinOp .., h | .nm _, .UnaryOp .., h | .nm _, .Lambda .., h | .nm _, .IfExp .., h | .nm _, .Dict .., h | .nm _, .Set .., h | .nm _, .ListComp .., h | .nm _, .SetComp .., h | .nm _, .DictComp .., h | .nm _, .GeneratorExp .., h
  | .nm _, .Await .., h | .nm _, .Yield .., h | .nm _, .YieldFrom .., h | .nm _, .Compare .., h | .nm _, .Call .., h | .nm _, .FormattedValue .., h | .nm _, .JoinedStr .., h | .nm _, .Constant .., h | .nm _, .Attribute .., h | .nm _, .Subscript .., h | .nm _, .Starred .., h | .nm _, .List .., h | .nm _, .Tuple .., h | .nm _, .Slice .., h => by simp [isTg] at h
  | .tp _, .BoolOp .., h | .tp _, .NamedExpr .., h | .tp _, .BinOp .., h | .tp _, .UnaryOp .., h | .tp _, .Lambda .., h | .tp _, .IfExp .., h | .tp _, .Dict .., h | .tp _, .Set .., h | .tp _, .ListComp .., h | .tp _, .SetComp .., h | .tp _, .DictComp .., h | .tp _, .GeneratorExp .., h
  | .tp _, .Await .., h | .tp _, .Yield .., h | .tp _, .YieldFrom .., h | .tp _, .Compare .., h | .tp _, .Call .., h | .tp _, .FormattedValue .., h | .tp _, .JoinedStr .., h | .tp _, .Constant .., h | .tp _, .Attribute .., h | .tp _, .Subscript .., h | .tp _, .Starred .., h | .tp _, .List .., h | .tp _, .Name .., h | .tp _, .Slice .., h => by simp [isTg] at h
  | .up _, .BoolOp .., h | .up _, .NamedExpr .., h | .up _, .BinOp .., h | .up _, .UnaryOp .., h | .up _, .Lambda .., h | .up _, .IfExp .., h | .up _, .Dict .., h | .up _, .Set .., h | .up _, .ListComp .., h | .up _, .SetComp .., h | .up _, .DictComp .., h | .up _, .GeneratorExp .., h
  | .up _, .Await .., h | .up _, .Yield .., h | .up _, .YieldFrom .., h | .up _, .Compare .., h | .up _, .Call .., h | .up _, .FormattedValue .., h | .up _, .JoinedStr .., h | .up _, .Constant .., h | .up _, .Attribute .., h | .up _, .Subscript .., h | .up _, .Starred .., h | .up _, .List .., h | .up _, .Name .., h | .up _, .Slice .., h => by simp [isTg] at h
theorem okTgs {X : Cx} {S : Sx_} (hX : XOk X S) : ∀ (ts : Tgs) (xs : List Expr), isTgs S ts xs = true → PGs X xs (gTs X.K ts)
  | .nil, [], h => pgs_imp pgs_nil fun v σ H Q ⟨Z, ph, env, m, d, env', re, wd, r, e, q⟩ => by
    cases d with
    | nil =>
      simp only [bindTgs] at e
      cases e
      cases r
      exact ⟨rfl, q σ re fun _ _ => rfl⟩
    | cons a b => simp [bindTgs] at e
  | .cons t ts, x :: xs, h => by
    simp only [isTgs, Bool.and_eq_true] at h
    refine pgs_imp (pgs_cons (okTg hX t x h.1) (okTgs hX ts xs h.2) (by rw [isTg_each h.1]; rfl)) fun v σ H Q ⟨Z, ph, env, m, d, env', re, wd, r, e, q⟩ => ?_
    cases d with
    | nil => simp [bindTgs] at e
    | cons a b =>
      simp only [bindTgs] at e
      obtain ⟨e1, h1, e⟩ := Option.bind_eq_some_iff.mp e
      cases r with
      | cons r0 r => exact ⟨_, _, rfl, Z, ph, env, m, a, e1, re, wd, r0, h1, fun σ1 re1 w1 => ⟨Z, ph, e1, m, b, env', re1, wd, r, e, fun σ2 re2 w2 => q σ2 re2 fun l hl => by
          simp only [tgsIn, Bool.and_eq_true] at hl
          rw [w2 l hl.2, w1 l hl.1]⟩⟩
  | .nil, _ :: _, h => by simp [isTgs] at h
  | .cons _ _, [], h => by simp [isTgs] at h
end

/-! ## what is walked -/
structure Ydl (K : PySem.W.Frag) (Z : Addr → Prop) (ph : List Addr) (H0 : Hp) (J : L2.It) (ds : List D) : Prop where
  go : ∀ i ph' H', i < ds.length → Sx ph H0 ph' H' → J.go i H'
  stop : ∀ ph' H', Sx ph H0 ph' H' → J.stop ds.length H'
  yld : ∀ (Z' : Addr → Prop) i ph' H' x H2, (∀ a, Z' a → Z a ∨ H0 a = none) → i < ds.length → Sx ph H0 ph' H' → J.yld i H' x H2 →
    (H2 = H' ∨ ∃ T o, H' T = none ∧ H2 = upd H' T (.tup o)) ∧ ∃ d, ds[i]? = some d ∧ RepV K Z' ph' H2 x d
def tEvI (K : PySem.W.Frag) (r : RA) : TI := fun σ H R => ∃ Z ph env m, RepE K Z ph H σ env ∧ Wd K Z ph m H ∧ ∃ ds m', r env m = some (ds, m') ∧ ∀ ph' H' J, Sx ph H ph' H' → Wd K Z ph' m' H' → Ydl K Z ph' H' J ds → R J H'
theorem pi_imp {X : Cx} {tg x : Expr} {t t' : TI} (h : PI X tg x t) (i : ∀ σ H Q, t' σ H Q → t σ H Q) : PI X tg x t' := ⟨fun pins s σ H R I w => h.run pins s σ H R I (i σ H R w)⟩
section
variable {K : PySem.W.Frag} {Z Z' : Addr → Prop} {ph ph' : List Addr} {H H' : Hp}
mutual
theorem RepV.zmono (hz : ∀ a, Z' a → Z a ∨ H a = none) : ∀ {v d}, RepV K Z ph H v d → RepV K Z' ph H v d
  | _, _, .non => .non
  | _, _, .bl b => .bl b
  | _, _, .int i => .int i
  | _, _, .str x => .str x
  | _, _, .tup h r => .tup h (RepVs.zmono hz r)
  | _, _, .lst h n z r => .lst h n (fun q => (hz _ q).elim z fun e => by rw [h] at e; cases e) (RepVs.zmono hz r)
  | _, _, .frz h r => .frz h (RepVs.zmono hz r)
  | _, _, .ref h => .ref h
theorem RepVs.zmono (hz : ∀ a, Z' a → Z a ∨ H a = none) : ∀ {vs ds}, RepVs K Z ph H vs ds → RepVs K Z' ph H vs ds
  | _, _, .nil => .nil
  | _, _, .cons h r => .cons (RepV.zmono hz h) (RepVs.zmono hz r)
end
theorem ydl_tup {a : Addr} {vs : List V} {ds : List D} (h : SqT K H a vs) (r : RepVs K Z ph H vs ds) : Ydl K Z ph H (Itt K a) ds := by
  refine ⟨fun i ph' H' hi s => ?_, fun ph' H' s => ⟨vs, s.sqT h, by rw [r.len]; exact Nat.le_refl _⟩, fun Z' i ph' H' x H2 hz hi s hy => ?_⟩
  · obtain ⟨v, hv, _⟩ := r.get (List.getElem?_eq_getElem hi)
    exact ⟨vs, v, s.sqT h, hv⟩
  · obtain ⟨rfl, hy⟩ := hy
    obtain ⟨d, h1, r1⟩ := r.get' (hy vs (s.sqT h))
    exact ⟨.inl rfl, d, h1, (r1.zmono hz).mono s⟩
theorem ydl_lst {a : Addr} {vs : List V} {ds : List D} (h : H a = some (.lst vs)) (n : a ∉ ph) (r : RepVs K Z ph H vs ds) : Ydl K Z ph H (Itl K a) ds := by
  refine ⟨fun i ph' H' hi s => ?_, fun ph' H' s => ⟨vs, SqL.of (s.fr _ _ h n), by rw [r.len]; exact Nat.le_refl _⟩, fun Z' i ph' H' x H2 hz hi s hy => ?_⟩
  · obtain ⟨v, hv, _⟩ := r.get (List.getElem?_eq_getElem hi)
    exact ⟨vs, v, SqL.of (s.fr _ _ h n), hv⟩
  · obtain ⟨rfl, hy⟩ := hy
    obtain ⟨d, h1, r1⟩ := r.get' (hy vs (SqL.of (s.fr _ _ h n)))
    exact ⟨.inl rfl, d, h1, (r1.zmono hz).mono s⟩
theorem ydl_rng (lo : Int) (n : Nat) : Ydl K Z ph H (Itr lo n) (rangeD lo n) := by
  have hl : (rangeD lo n).length = n := by simp [rangeD]
  refine ⟨fun i ph' H' hi s => by rw [hl] at hi; exact hi, fun ph' H' s => by rw [hl]; exact Nat.le_refl _, fun Z' i ph' H' x H2 hz hi s hy => ?_⟩
  obtain ⟨rfl, rfl⟩ := hy
  rw [hl] at hi
  refine ⟨.inl rfl, .int (lo + i), ?_, .int _⟩
  simp [rangeD, hi]
theorem ydl_zipT {a b : Addr} {vs ws : List V} {ds es : List D} (h : SqT K H a vs) (r : RepVs K Z ph H vs ds) (h' : SqT K H b ws) (r' : RepVs K Z ph H ws es) : Ydl K Z ph H (RZ.ItzT K a b) (List.zipWith (fun a b => .tup [a, b]) ds es) := by
  have hl : (List.zipWith (fun a b => D.tup [a, b]) ds es).length = min ds.length es.length := List.length_zipWith
  refine ⟨fun i ph' H' hi s => ?_, fun ph' H' s => ⟨vs, ws, s.sqT h, s.sqT h', by rw [r.len, r'.len, hl]; omega⟩, fun Z' i ph' H' x H2 hz hi s hy => ?_⟩
  · rw [hl] at hi
    obtain ⟨v, hv, _⟩ := r.get (List.getElem?_eq_getElem (by omega : i < ds.length))
    obtain ⟨w, hw, _⟩ := r'.get (List.getElem?_eq_getElem (by omega : i < es.length))
    exact ⟨vs, ws, v, w, s.sqT h, s.sqT h', hv, hw⟩
  · obtain ⟨T, v, w, rfl, hT, rfl, h1, h2⟩ := hy
    obtain ⟨d, e1, q1⟩ := r.get' (h1 vs (s.sqT h))
    obtain ⟨e, e2, q2⟩ := r'.get' (h2 ws (s.sqT h'))
    have s2 : Sx ph' H' ph' (upd H' T (.tup [v, w])) := Sx.upd hT
    exact ⟨.inr ⟨T, _, hT, rfl⟩, .tup [d, e], by rw [List.getElem?_zipWith, e1, e2], .tup (SqT.of upd_same) (.cons (((q1.zmono hz).mono s).mono s2) (.cons (((q2.zmono hz).mono s).mono s2) .nil))⟩
theorem ydl_zipL {a b : Addr} {vs ws : List V} {ds es : List D} (h : H a = some (.lst vs)) (n : a ∉ ph) (r : RepVs K Z ph H vs ds) (h' : H b = some (.lst ws)) (n' : b ∉ ph) (r' : RepVs K Z ph H ws es) : Ydl K Z ph H (Itz K a b) (List.zipWith (fun a b => .tup [a, b]) ds es) := by
  have hl : (List.zipWith (fun a b => D.tup [a, b]) ds es).length = min ds.length es.length := List.length_zipWith
  have g : ∀ {ph' H'}, Sx ph H ph' H' → SqL K H' a vs := fun s => SqL.of (s.fr _ _ h n)
  have g' : ∀ {ph' H'}, Sx ph H ph' H' → SqL K H' b ws := fun s => SqL.of (s.fr _ _ h' n')
  refine ⟨fun i ph' H' hi s => ?_, fun ph' H' s => ⟨vs, ws, g s, g' s, by rw [r.len, r'.len, hl]; omega⟩, fun Z' i ph' H' x H2 hz hi s hy => ?_⟩
  · rw [hl] at hi
    obtain ⟨v, hv, _⟩ := r.get (List.getElem?_eq_getElem (by omega : i < ds.length))
    obtain ⟨w, hw, _⟩ := r'.get (List.getElem?_eq_getElem (by omega : i < es.length))
    exact ⟨vs, ws, v, w, g s, g' s, hv, hw⟩
  · obtain ⟨T, v, w, rfl, hT, rfl, h1, h2⟩ := hy
    obtain ⟨d, e1, q1⟩ := r.get' (h1 vs (g s))
    obtain ⟨e, e2, q2⟩ := r'.get' (h2 ws (g' s))
    have s2 : Sx ph' H' ph' (upd H' T (.tup [v, w])) := Sx.upd hT
    exact ⟨.inr ⟨T, _, hT, rfl⟩, .tup [d, e], by rw [List.getElem?_zipWith, e1, e2], .tup (SqT.of upd_same) (.cons (((q1.zmono hz).mono s).mono s2) (.cons (((q2.zmono hz).mono s).mono s2) .nil))⟩
end
section
variable {X : Cx} {x y tg : Expr} {pos p : Pos} {ra rb : RE}
theorem pi_or {t t' : TI} (h : PI X tg x t) (h' : PI X tg x t') : PI X tg x (fun σ H R => t σ H R ∨ t' σ H R) := ⟨fun pins s σ H R I w => w.elim (h.run pins s σ H R I) (h'.run pins s σ H R I)⟩
def rSeq_ (ra : RE) : RA := fun env m => (ra env m).bind fun p => match p.1 with
  | .tup xs => some (xs, p.2)
  | .lst xs => some (xs, p.2)
  | _ => none
theorem i_seq (ha : PE X x (tEv X.K ra)) : PI X tg x (tEvI X.K (rSeq_ ra)) :=
  pi_imp (pi_or (pi_tup ha) (pi_list ha)) fun σ H R ⟨Z, ph, env, m, re, wd, ds, m', e, q⟩ => by
    obtain ⟨p, h1, e⟩ := Option.bind_eq_some_iff.mp e
    split at e
    · rename_i xs hp
      cases e
      refine .inl (ev_of re wd h1 fun ph1 H1 v s1 w1 re1 r1 => ?_)
      rw [hp] at r1
      cases r1 with
      | tup h r => exact ⟨_, rfl, ⟨_, h⟩, q ph1 H1 _ s1 w1 (ydl_tup h r)⟩
    · rename_i xs hp
      cases e
      refine .inr (ev_of re wd h1 fun ph1 H1 v s1 w1 re1 r1 => ?_)
      rw [hp] at r1
      cases r1 with
      | lst h n z r => exact ⟨_, rfl, ⟨_, SqL.of h⟩, q ph1 H1 _ s1 w1 (ydl_lst h n r)⟩
    · cases e
def rRng1_ (ra : RE) : RA := fun env m => (ra env m).bind fun p => match p.1 with
  | .int n => if rgOk n then some (rangeD 0 n.toNat, p.2) else none
  | _ => none
theorem i_rng1 (hg : Gl X "range") (hm : X.mg "range" = none) (ha : PE X x (tEv X.K ra)) (hs : starEach [x] X.env = (false, eval x X.env) :: starEach [] X.env) : PI X tg (.Call (.Name "range" p) [x] [] pos) (tEvI X.K (rRng1_ ra)) :=
  pi_imp (pi_range1 hg hm (pa_cons ha pa_nil hs) hs) fun σ H R ⟨Z, ph, env, m, re, wd, ds, m', e, q⟩ => by
    obtain ⟨p, h1, e⟩ := Option.bind_eq_some_iff.mp e
    refine ev_of re wd h1 fun ph1 H1 v s1 w1 re1 r1 => ?_
    split at e
    · rename_i n hp
      rw [hp] at r1
      cases r1
      split at e
      · rename_i hk
        simp only [rgOk, Bool.and_eq_true, decide_eq_true_eq] at hk
        cases e
        exact ⟨n, rfl, hk.1, hk.2, q ph1 H1 _ s1 w1 (ydl_rng 0 _)⟩
      · cases e
    · cases e
def rRng2_ (ra rb : RE) : RA := fun env m => (ra env m).bind fun p => (rb env p.2).bind fun q => match p.1, q.1 with
  | .int i, .int j => if rgOk i && rgOk j then some (rangeD i (j - i).toNat, q.2) else none
  | _, _ => none
theorem i_rng2 (hg : Gl X "range") (hm : X.mg "range" = none) (ha : PE X x (tEv X.K ra)) (hb : PE X y (tEv X.K rb)) (hs : starEach [x, y] X.env = (false, eval x X.env) :: starEach [y] X.env) (hs2 : starEach [y] X.env = (false, eval y X.env) :: starEach [] X.env) : PI X tg (.Call (.Name "range" p) [x, y] [] pos) (tEvI X.K (rRng2_ ra rb)) :=
  pi_imp (pi_range2 hg hm (pa_cons ha (pa_cons hb pa_nil hs2) hs) (by rw [hs, hs2]; rfl) hs2) fun σ H R ⟨Z, ph, env, m, re, wd, ds, m', e, q⟩ => by
    obtain ⟨p, h1, e⟩ := Option.bind_eq_some_iff.mp e
    obtain ⟨p2, h2, e⟩ := Option.bind_eq_some_iff.mp e
    refine ev_of re wd h1 fun ph1 H1 v s1 w1 re1 r1 => ev_of re1 w1 h2 fun ph2 H2 w s2 w2 re2 r2 => ?_
    split at e
    · rename_i i j hi hj
      rw [hi] at r1
      rw [hj] at r2
      cases r1
      cases r2
      split at e
      · rename_i hk
        simp only [rgOk, Bool.and_eq_true, decide_eq_true_eq] at hk
        cases e
        exact ⟨i, j, rfl, ⟨hk.1.1, hk.1.2, hk.2.1, hk.2.2⟩, q ph2 H2 _ (s1.trans s2) w2 (ydl_rng i _)⟩
      · cases e
    · cases e
def rZip_ (ra rb : RE) : RA := fun env m => (ra env m).bind fun p => (rb env p.2).bind fun q => (zipD p.1 q.1).map fun ds => (ds, q.2)
def rZipS_ (ra rb : RE) : RA := fun env m => (ra env m).bind fun p => (rb env p.2).bind fun q => (zipSD p.1 q.1).map fun ds => (ds, q.2)
theorem row_sg {K : PySem.W.Frag} {Z : Addr → Prop} {ph : List Addr} {H : Hp} {v : V} {d : D} {b : Bool} {xs : List D} (r : RepV K Z ph H v d) (e : rowD d = some (b, xs)) :
    ∃ a vs, v = .ref a ∧ RepVs K Z ph H vs xs ∧ ∀ ph' H', Sx ph H ph' H' → SqG b K H' a vs := by
  cases r with
  | tup h r => cases e; exact ⟨_, _, rfl, r, fun ph' H' s => s.sqT h⟩
  | lst h n z r => cases e; exact ⟨_, _, rfl, r, fun ph' H' s => SqL.of (s.fr _ _ h n)⟩
  | non => cases e
  | bl => cases e
  | int => cases e
  | str => cases e
  | frz => cases e
  | ref => cases e
theorem ydl_zipG {K : PySem.W.Frag} {Z : Addr → Prop} {ph : List Addr} {H : Hp} {a c : Addr} {b1 b2 : Bool} {vs ws : List V} {ds es : List D} (g : ∀ ph' H', Sx ph H ph' H' → SqG b1 K H' a vs) (r : RepVs K Z ph H vs ds) (g' : ∀ ph' H', Sx ph H ph' H' → SqG b2 K H' c ws) (r' : RepVs K Z ph H ws es) (e : ds.length = es.length) : Ydl K Z ph H (ItG b1 b2 K a c) (List.zipWith (fun a b => .tup [a, b]) ds es) := by
  have hl : (List.zipWith (fun a b => D.tup [a, b]) ds es).length = min ds.length es.length := List.length_zipWith
  refine ⟨fun i ph' H' hi s => ?_, fun ph' H' s => ⟨vs, ws, g _ _ s, g' _ _ s, by rw [r.len, hl]; omega, by rw [r'.len, hl]; omega⟩, fun Z' i ph' H' x H2 hz hi s hy => ?_⟩
  · rw [hl] at hi
    obtain ⟨v, hv, _⟩ := r.get (List.getElem?_eq_getElem (by omega : i < ds.length))
    obtain ⟨w, hw, _⟩ := r'.get (List.getElem?_eq_getElem (by omega : i < es.length))
    exact ⟨vs, ws, v, w, g _ _ s, g' _ _ s, hv, hw⟩
  · obtain ⟨T, v, w, rfl, hT, rfl, h1, h2⟩ := hy
    obtain ⟨d, e1, q1⟩ := r.get' (h1 vs (g _ _ s))
    obtain ⟨e, e2, q2⟩ := r'.get' (h2 ws (g' _ _ s))
    have s2 : Sx ph' H' ph' (upd H' T (.tup [v, w])) := Sx.upd hT
    exact ⟨.inr ⟨T, _, hT, rfl⟩, .tup [d, e], by rw [List.getElem?_zipWith, e1, e2], .tup (SqT.of upd_same) (.cons (((q1.zmono hz).mono s).mono s2) (.cons (((q2.zmono hz).mono s).mono s2) .nil))⟩
theorem zipS_run {σ : L2.St} {H : Hp} {R : L2.It → Hp → Prop} (h : tEvI X.K (rZipS_ ra rb) σ H R) : iZipG X.K (tCons (tEv X.K ra) (tCons (tEv X.K rb) tNil)) σ H R := by
  obtain ⟨Z, ph, env, m, re, wd, ds, m', e, q⟩ := h
  obtain ⟨p, h1, e⟩ := Option.bind_eq_some_iff.mp e
  obtain ⟨p2, h2, e⟩ := Option.bind_eq_some_iff.mp e
  obtain ⟨zs, h3, e⟩ := Option.map_eq_some_iff.mp e
  cases e
  refine ev_of re wd h1 fun ph1 H1 v s1 w1 re1 r1 => ev_of re1 w1 h2 fun ph2 H2 w s2 w2 re2 r2 => ?_
  have r1 := r1.mono s2
  obtain ⟨⟨b1, xs⟩, g1, h3⟩ := Option.bind_eq_some_iff.mp h3
  obtain ⟨⟨b2, ys⟩, g2, h3⟩ := Option.bind_eq_some_iff.mp h3
  split at h3
  · rename_i el
    cases h3
    obtain ⟨a, vs, rfl, q1, k1⟩ := row_sg r1 g1
    obtain ⟨c, ws, rfl, q2, k2⟩ := row_sg r2 g2
    exact ⟨b1, b2, a, c, vs, ws, rfl, k1 _ _ Sx.refl, k2 _ _ Sx.refl, q ph2 H2 _ (s1.trans s2) w2 (ydl_zipG k1 q1 k2 q2 el)⟩
  · cases h3
theorem i_zip {elts : List Expr} {kk : Nat} {tpos : Pos} (hg : Gl X "zip") (hm : X.mg "zip" = none) (ha : PE X x (tEv X.K ra)) (hb : PE X y (tEv X.K rb)) (hs : starEach [x, y] X.env = (false, eval x X.env) :: starEach [y] X.env) (hs2 : starEach [y] X.env = (false, eval y X.env) :: starEach [] X.env) :
    PI X (.Tuple elts kk tpos) (.Call (.Name "zip" p) [x, y] [] pos) (tEvI X.K (rZip_ ra rb)) :=
  pi_imp (pi_or (RZ.pi_zipA hg hm (pa_cons ha (pa_cons hb pa_nil hs2) hs) hs (by rw [hs2]; rfl)) (pi_zipG hg hm (pa_cons ha (pa_cons hb pa_nil hs2) hs) hs (by rw [hs2]; rfl))) fun σ H R ⟨Z, ph, env, m, re, wd, ds, m', e, q⟩ => by
    have e0 := e
    obtain ⟨p, h1, e⟩ := Option.bind_eq_some_iff.mp e
    obtain ⟨p2, h2, e⟩ := Option.bind_eq_some_iff.mp e
    obtain ⟨zs, h3, e⟩ := Option.map_eq_some_iff.mp e
    cases e
    have gen : zipSD p.1 p2.1 = some ds → iZipG X.K (tCons (tEv X.K ra) (tCons (tEv X.K rb) tNil)) σ H R := fun h4 =>
      zipS_run ⟨Z, ph, env, m, re, wd, ds, p2.2, by unfold rZipS_; rw [h1, Option.bind_some, h2, Option.bind_some, h4]; rfl, q⟩
    have h30 := h3
    unfold zipD at h3
    split at h3
    · rename_i xs ys hi hj
      cases h3
      refine .inl (ev_of re wd h1 fun ph1 H1 v s1 w1 re1 r1 => ev_of re1 w1 h2 fun ph2 H2 w s2 w2 re2 r2 => ?_)
      have r1 := r1.mono s2
      rw [hi] at r1
      rw [hj] at r2
      cases r1 with
      | tup g1 r1 =>
        cases r2 with
        | tup g2 r2 => exact ⟨_, _, _, _, rfl, .inr ⟨g1, g2, q ph2 H2 _ (s1.trans s2) w2 (ydl_zipT g1 r1 g2 r2)⟩⟩
    · rename_i xs ys hi hj
      cases h3
      refine .inl (ev_of re wd h1 fun ph1 H1 v s1 w1 re1 r1 => ev_of re1 w1 h2 fun ph2 H2 w s2 w2 re2 r2 => ?_)
      have r1 := r1.mono s2
      rw [hi] at r1
      rw [hj] at r2
      cases r1 with
      | lst g1 n1 z1 r1 =>
        cases r2 with
        | lst g2 n2 z2 r2 => exact ⟨_, _, _, _, rfl, .inl ⟨SqL.of g1, SqL.of g2, q ph2 H2 _ (s1.trans s2) w2 (ydl_zipL g1 n1 r1 g2 n2 r2)⟩⟩
    · rename_i xs ys hi hj
      exact .inr (gen (by rw [hi, hj]; exact h3))
    · rename_i xs ys hi hj
      exact .inr (gen (by rw [hi, hj]; exact h3))
    · cases h3
theorem i_zipS {elts : List Expr} {kk kn : Nat} {tpos vpos kpos : Pos} (hg : Gl X "zip") (hm : X.mg "zip" = none) (ha : PE X x (tEv X.K ra)) (hb : PE X y (tEv X.K rb)) (hs : starEach [x, y] X.env = (false, eval x X.env) :: starEach [y] X.env) (hs2 : starEach [y] X.env = (false, eval y X.env) :: starEach [] X.env) :
    PI X (.Tuple elts kk tpos) (.Call (.Name "zip" p) [x, y] [⟨some "strict", .Constant (.bool true) kn vpos, kpos⟩] pos) (tEvI X.K (rZipS_ ra rb)) :=
  pi_imp (pi_zipS hg hm (pa_cons ha (pa_cons hb pa_nil hs2) hs) hs (by rw [hs, hs2]; rfl)) fun _ _ _ h => zipS_run h
end
end Pv

namespace Pv
open PySem L2
section
variable {K : PySem.W.Frag} {Z : Addr → Prop} {ph ph' : List Addr} {H H' : Hp} {m : M} {p : Addr} {us us' : List V}
theorem SqT.upd {a : Addr} {vs : List V} (h : H p = some (.lst us)) (q : SqT K H a vs) : SqT K (L2.upd H p (.lst us')) a vs := by
  rcases q with (q | ⟨o, q⟩) | q
  · exact .inl (.inl (by rw [upd_ne (ne_of q h (by intro e; cases e))]; exact q))
  · exact .inl (.inr ⟨o, by rw [upd_ne (ne_of q h (by intro e; cases e))]; exact q⟩)
  · exact .inr q
theorem FrzL.upd {a : Addr} {vs : List V} (h : H p = some (.lst us)) (q : FrzL K H a vs) : FrzL K (L2.upd H p (.lst us')) a vs := by
  rcases q with ⟨o, q⟩ | q
  · exact .inl ⟨o, by rw [upd_ne (ne_of q h (by intro e; cases e))]; exact q⟩
  · exact .inr q
mutual
theorem RepV.updZ (hz : Z p) (h : H p = some (.lst us)) : ∀ {v d}, RepV K Z ph H v d → RepV K Z ph (L2.upd H p (.lst us')) v d
  | _, _, .non => .non
  | _, _, .bl b => .bl b
  | _, _, .int i => .int i
  | _, _, .str x => .str x
  | _, _, .tup q r => .tup (SqT.upd h q) (RepVs.updZ hz h r)
  | _, _, .lst (a := a) q n z r => .lst (by rw [upd_ne (fun (e : a = p) => z (by rw [e]; exact hz))]; exact q) n z (RepVs.updZ hz h r)
  | _, _, .frz q r => .frz (FrzL.upd h q) (RepVs.updZ hz h r)
  | _, _, .ref q => .ref q
theorem RepVs.updZ (hz : Z p) (h : H p = some (.lst us)) : ∀ {vs ds}, RepVs K Z ph H vs ds → RepVs K Z ph (L2.upd H p (.lst us')) vs ds
  | _, _, .nil => .nil
  | _, _, .cons q r => .cons (RepV.updZ hz h q) (RepVs.updZ hz h r)
end
theorem Wd.updZ (w : Wd K Z ph m H) (hz : Z p) (n : p ∉ ph) (h : H p = some (.lst us)) : Wd K Z ph m (L2.upd H p (.lst us')) := by
  refine ⟨w.len, w.nd, fun l xs e => ?_, fun a ha => ?_⟩
  · obtain ⟨a, vs, e1, e2, r⟩ := w.obj l xs e
    exact ⟨a, vs, e1, by rw [upd_ne (fun (e : a = p) => n (by rw [← e]; exact List.mem_of_getElem? e1))]; exact e2, r.updZ hz h⟩
  · by_cases e : a = p
    · subst e; exact ⟨_, upd_same⟩
    · obtain ⟨o, q⟩ := w.zin a ha
      exact ⟨o, by rw [upd_ne e]; exact q⟩
theorem Wd.newZ {vs : List V} (w : Wd K Z ph m H) (h : H p = none) : Wd K (Zp Z p) ph m (L2.upd H p (.lst vs)) := by
  have s : Sx ph H ph (L2.upd H p (.lst vs)) := Sx.upd h
  have w' := w.new (o := .lst vs) h
  refine ⟨w'.len, w'.nd, fun l xs e => ?_, fun a ha => ?_⟩
  · obtain ⟨a, us, e1, e2, r⟩ := w.obj l xs e
    exact ⟨a, us, e1, by rw [upd_ne (ne_of_none e2 h)]; exact e2, (r.zp h).mono s⟩
  · rcases ha with rfl | ha
    · exact ⟨_, upd_same⟩
    · exact w'.zin a ha
theorem Sx.updNew {ph0 : List Addr} {H0 : Hp} {o : HO} (s : Sx ph0 H0 ph H) (h : H0 p = none) : Sx ph0 H0 ph (L2.upd H p o) := by
  have k : ∀ a u, H0 a = some u → a ≠ p := fun a u e => ne_of_none e h
  refine ⟨s.ext, s.new, fun a u e n => by rw [upd_ne (k a u e)]; exact s.fr a u e n, fun a u e n => by rw [upd_ne (k a u e)]; exact s.ft a u e n, fun a u e => ?_⟩
  obtain ⟨o', q⟩ := s.old a u e
  exact ⟨o', by rw [upd_ne (k a u e)]; exact q⟩
theorem Sx.grow {x : V} {H2 : Hp} (h : H2 = H ∨ ∃ T o, H T = none ∧ H2 = L2.upd H T (.tup o)) : Sx ph H ph H2 := by
  rcases h with rfl | ⟨T, o, h, rfl⟩
  · exact Sx.refl
  · exact Sx.upd h
theorem Wd.grow {H2 : Hp} (w : Wd K Z ph m H) (h : H2 = H ∨ ∃ T o, H T = none ∧ H2 = L2.upd H T (.tup o)) : Wd K Z ph m H2 := by
  rcases h with rfl | ⟨T, o, h, rfl⟩
  · exact w
  · exact w.new h
end

section
variable {X : Cx} {x it tg c : Expr} {scope : Scope} {pos : Pos} {ri : RA} {rx rc : RE} {own : List (Str × Nat)} {t : Tg}
def rComp_ (own : List (Str × Nat)) (t : Tg) (ri : RA) (rx : RE) : RE := fun env m => (ri env m).bind fun p => if p.1.length ≤ lim then (compL t (wipeE env (own.map (·.2))) rx p.1 p.2).map fun q => (.lst q.1, q.2) else none
def rCompI_ (own : List (Str × Nat)) (t : Tg) (ri : RA) (rc rx : RE) : RE := fun env m => (ri env m).bind fun p => if p.1.length ≤ lim then (compLI t (wipeE env (own.map (·.2))) rc rx p.1 p.2).map fun q => (.lst q.1, q.2) else none
/-- where a comprehension stands behind i items -/
structure CAt (K : PySem.W.Frag) (Z : Addr → Prop) (ph1 : List Addr) (H1 : Hp) (Dl : Addr) (go : List D → M → Option (List D × M)) (items ds : List D) (m' : M) (i : Nat) (H : Hp) : Prop where
  le : i ≤ items.length
  ex : ∃ ph2 m2 accv accd rest, Sx ph1 H1 ph2 H ∧ Wd K (Zp Z Dl) ph2 m2 H ∧ Dl ∉ ph2 ∧ H Dl = some (.lst accv) ∧ RepVs K (Zp Z Dl) ph2 H accv accd ∧ accd.length ≤ i ∧ go (items.drop i) m2 = some (rest, m') ∧ accd ++ rest = ds
theorem comp_run {K : PySem.W.Frag} {σ : L2.St} {H1 : Hp} {Q : VK} {Z : Addr → Prop} {ph1 : List Addr} {env : Env} {m m' : M} {items ds : List D} {J : L2.It} {tt : TT} {te : TE} {g : TG} {vs : List Nat} {Dl : Addr} {go : List D → M → Option (List D × M)}
    (hgo : ∀ m, go [] m = some ([], m))
    (re : RepE K Z ph1 H1 σ env) (wd : Wd K Z ph1 m H1) (hD : H1 Dl = none) (yd : Ydl K Z ph1 H1 J items) (e : go items m = some (ds, m')) (hl : items.length ≤ lim)
    (turn : ∀ i d ph2 m2 H2 x rest (N : Hp → Prop), items[i]? = some d → Sx ph1 H1 ph2 H2 → Wd K (Zp Z Dl) ph2 m2 H2 → RepE K (Zp Z Dl) ph2 H2 (wipe σ vs) (wipeE env vs) → RepV K (Zp Z Dl) ph2 H2 x d → go (d :: items.drop (i + 1)) m2 = some (rest, m') →
      (∀ ph4 m4 H4 v y rest', Sx ph2 H2 ph4 H4 → Wd K (Zp Z Dl) ph4 m4 H4 → RepV K (Zp Z Dl) ph4 H4 v y → go (items.drop (i + 1)) m4 = some (rest', m') → rest = y :: rest' → ∃ acc, H4 Dl = some (.lst acc) ∧ acc.length < sizeLine ∧ N (upd H4 Dl (.lst (acc ++ [v])))) →
      (∀ ph4 m4 H4, Sx ph2 H2 ph4 H4 → Wd K (Zp Z Dl) ph4 m4 H4 → go (items.drop (i + 1)) m4 = some (rest, m') → N H4) →
      g x (wipe σ vs) H2 fun σ2 H3 => wipe σ2 vs = wipe σ vs ∧ tt σ2 H3 fun b H4 => if b = true then te σ2 H4 fun y H5 => ∃ acc, H5 Dl = some (.lst acc) ∧ acc.length < sizeLine ∧ N (upd H5 Dl (.lst (acc ++ [y]))) else N H4)
    (q : NP K Z ph1 H1 m' ds Q) :
    ∃ W : Nat → Nat → Hp → Prop, (∃ k, W 0 k (upd H1 Dl (.lst []))) ∧ ∀ i k H, W i k H →
      (J.stop i H ∧ Q (.ref Dl) H) ∨ (J.go i H ∧ ∃ Nx : Hp → Prop, (∀ H', Nx H' → ∃ k', k' < k ∧ W (i + 1) k' H') ∧ ∀ x H', J.yld i H x H' → g x (wipe σ vs) H' fun σ2 H2 => wipe σ2 vs = wipe σ vs ∧ tt σ2 H2 fun b H3 =>
        if b = true then te σ2 H3 fun y H4 => ∃ acc, H4 Dl = some (.lst acc) ∧ acc.length < sizeLine ∧ Nx (upd H4 Dl (.lst (acc ++ [y]))) else Nx H3) := by
  refine ⟨fun i k H => k = items.length - i ∧ CAt K Z ph1 H1 Dl go items ds m' i H, ⟨items.length, by simp, Nat.zero_le _, ?_⟩, ?_⟩
  · exact ⟨ph1, m, [], [], ds, Sx.upd hD, wd.newZ hD, wd.np hD, upd_same, .nil, Nat.le_refl _, by simpa using e, by simp⟩
  · rintro i k H ⟨rfl, hi, ph2, m2, accv, accd, rest, s2, w2, n2, hDl, ra, hla, hg, hds⟩
    by_cases hlt : i < items.length
    · refine .inr ⟨yd.go i ph2 H hlt s2, CAt K Z ph1 H1 Dl go items ds m' (i + 1), fun H' h => ⟨items.length - (i + 1), by omega, rfl, h⟩, fun x H' hy => ?_⟩
      obtain ⟨hg', d, hd, rx⟩ := yd.yld (Zp Z Dl) i ph2 H x H' (fun a ha => ha.elim (fun e => .inr (by rw [e]; exact hD)) .inl) hlt s2 hy
      have s3 : Sx ph2 H ph2 H' := Sx.grow (x := x) hg'
      have w3 : Wd K (Zp Z Dl) ph2 m2 H' := w2.grow hg'
      have hdr : items.drop i = d :: items.drop (i + 1) := by
        have e2 : items[i] = d := by rw [List.getElem?_eq_getElem hlt] at hd; exact Option.some.inj hd
        rw [List.drop_eq_getElem_cons hlt, e2]
      rw [hdr] at hg
      refine turn i d ph2 m2 H' x rest _ hd (s2.trans s3) w3 (((re.zp hD).mono (s2.trans s3)).wipe vs) rx hg (fun ph4 m4 H4 v y rest' s4 w4 rv hg4 er => ?_) (fun ph4 m4 H4 s4 w4 hg4 => ?_)
      · have hD4 : H4 Dl = some (.lst accv) := s4.fr _ _ (s3.fr _ _ hDl n2) n2
        have n4 : Dl ∉ ph4 := (s3.trans s4).notin hDl n2
        refine ⟨accv, hD4, by rw [ra.len, ← lim_eq]; omega, hlt, ph4, m4, accv ++ [v], accd ++ [y], rest', ((s2.trans s3).trans s4).updNew hD, w4.updZ (.inl rfl) n4 hD4, n4, upd_same, ?_, by simp; omega, hg4, by rw [← hds, er]; simp⟩
        exact (((ra.mono s3).mono s4).append (.cons rv .nil)).updZ (.inl rfl) hD4
      · have hD4 : H4 Dl = some (.lst accv) := s4.fr _ _ (s3.fr _ _ hDl n2) n2
        have n4 : Dl ∉ ph4 := (s3.trans s4).notin hDl n2
        exact ⟨hlt, ph4, m4, accv, accd, rest, (s2.trans s3).trans s4, w4, n4, hD4, (ra.mono s3).mono s4, by omega, hg4, hds⟩
    · have ei : i = items.length := by omega
      subst ei
      rw [List.drop_length, hgo] at hg
      cases hg
      rw [List.append_nil] at hds
      subst hds
      exact .inl ⟨yd.stop ph2 H s2, q ph2 H Dl accv hD hDl n2 s2 w2 ra⟩
theorem comp_read (hin : tgIn (own.map (·.2)) t = true) {K : PySem.W.Frag} (σ : L2.St) (H : Hp) (Q : VK) (h : tEvN K (rComp_ own t ri rx) σ H Q) : tLc (tEvI K ri) (gT K t) tYes (tEv K rx) (own.map (·.2)) σ H Q := by
  obtain ⟨Z, ph, env, m, re, wd, ds, m', e, q⟩ := h
  obtain ⟨p, h1, e⟩ := Option.bind_eq_some_iff.mp e
  split at e
  · rename_i hl
    obtain ⟨⟨ys, m2⟩, h2, e⟩ := Option.map_eq_some_iff.mp e
    cases e
    refine ⟨Z, ph, env, m, re, wd, p.1, p.2, h1, fun ph1 H1 J s1 w1 yd Dl hD => ?_⟩
    refine comp_run (go := compL t (wipeE env (own.map (·.2))) rx) (fun _ => rfl) (re.mono s1) w1 hD yd h2 hl ?_ (q.after s1)
    intro i d ph2 m2 H2 x rest N hd s2 w2 re2 rx2 hg k1 k2
    simp only [compL] at hg
    obtain ⟨e1, b1, hg⟩ := Option.bind_eq_some_iff.mp hg
    obtain ⟨y, b2, hg⟩ := Option.bind_eq_some_iff.mp hg
    obtain ⟨r, b3, hg⟩ := Option.bind_eq_some_iff.mp hg
    cases hg
    refine ⟨_, ph2, _, m2, d, e1, re2, w2, rx2, b1, fun σ' re' hw => ⟨by rw [hw _ hin, wipe_wipe], ?_⟩⟩
    exact ev_of re' w2 b2 fun ph4 H4 v s4 w4 re4 r4 => k1 ph4 y.2 H4 v y.1 r.1 s4 w4 r4 b3 rfl
  · cases e
theorem compI_read (hin : tgIn (own.map (·.2)) t = true) {K : PySem.W.Frag} (σ : L2.St) (H : Hp) (Q : VK) (h : tEvN K (rCompI_ own t ri rc rx) σ H Q) : tLc (tEvI K ri) (gT K t) (tEvT K rc) (tEv K rx) (own.map (·.2)) σ H Q := by
  obtain ⟨Z, ph, env, m, re, wd, ds, m', e, q⟩ := h
  obtain ⟨p, h1, e⟩ := Option.bind_eq_some_iff.mp e
  split at e
  · rename_i hl
    obtain ⟨⟨ys, m2⟩, h2, e⟩ := Option.map_eq_some_iff.mp e
    cases e
    refine ⟨Z, ph, env, m, re, wd, p.1, p.2, h1, fun ph1 H1 J s1 w1 yd Dl hD => ?_⟩
    refine comp_run (go := compLI t (wipeE env (own.map (·.2))) rc rx) (fun _ => rfl) (re.mono s1) w1 hD yd h2 hl ?_ (q.after s1)
    intro i d ph2 m2 H2 x rest N hd s2 w2 re2 rx2 hg k1 k2
    simp only [compLI] at hg
    obtain ⟨e1, b1, hg⟩ := Option.bind_eq_some_iff.mp hg
    obtain ⟨cc, b0, hg⟩ := Option.bind_eq_some_iff.mp hg
    refine ⟨_, ph2, _, m2, d, e1, re2, w2, rx2, b1, fun σ' re' hw => ⟨by rw [hw _ hin, wipe_wipe], ?_⟩⟩
    split at hg
    · rename_i hp
      obtain ⟨y, b2, hg⟩ := Option.bind_eq_some_iff.mp hg
      obtain ⟨r, b3, hg⟩ := Option.bind_eq_some_iff.mp hg
      cases hg
      refine evt_of re' w2 (b := true) (m1 := cc.2) (by rw [b0, ← hp]) fun ph3 H3 s3 w3 re3 => ?_
      rw [if_pos rfl]
      exact ev_of re3 w3 b2 fun ph4 H4 v s4 w4 re4 r4 => k1 ph4 y.2 H4 v y.1 r.1 (s3.trans s4) w4 r4 b3 rfl
    · rename_i hp
      refine evt_of re' w2 (b := false) (m1 := cc.2) (by rw [b0, ← hp]) fun ph3 H3 s3 w3 re3 => ?_
      rw [if_neg Bool.false_ne_true]
      exact k2 ph3 cc.2 H3 s3 w3 hg
    · cases hg
  · cases e
theorem n_compN (hc : X.calm = true) (hN : X.N.Nodup) (hi : PI X tg it (tEvI X.K ri)) (ok : BlkOk X.N X.env.scope scope own) (hin : tgIn (own.map (·.2)) t = true)
    (hg : ∀ (s : Shared) (H : Hp) (C : Addr) (cl : List (Str × Addr)) (fp : List Addr), PG (X.blk s H scope (compEnvC scope cl C X.env) fp) tg (gT X.K t))
    (he : ∀ (s : Shared) (H : Hp) (C : Addr) (cl : List (Str × Addr)) (fp : List Addr), PE (X.blk s H scope (compEnvC scope cl C X.env) fp) x (tEv X.K rx)) (hs : ∀ v, foldedSetIterable it X.env v = pure v) :
    PE X (.ListComp x [⟨tg, it, [], 0⟩] scope pos) (tEvN X.K (rComp_ own t ri rx)) :=
  pe_imp (pe_lc hc hN hi ok hg (fun _ _ _ _ _ => pts_nil) he hs) (comp_read hin)
theorem n_compIN (hc : X.calm = true) (hN : X.N.Nodup) (hi : PI X tg it (tEvI X.K ri)) (ok : BlkOk X.N X.env.scope scope own) (hin : tgIn (own.map (·.2)) t = true)
    (hg : ∀ (s : Shared) (H : Hp) (C : Addr) (cl : List (Str × Addr)) (fp : List Addr), PG (X.blk s H scope (compEnvC scope cl C X.env) fp) tg (gT X.K t))
    (ht : ∀ (s : Shared) (H : Hp) (C : Addr) (cl : List (Str × Addr)) (fp : List Addr), PT (X.blk s H scope (compEnvC scope cl C X.env) fp) c (tEvT X.K rc))
    (he : ∀ (s : Shared) (H : Hp) (C : Addr) (cl : List (Str × Addr)) (fp : List Addr), PE (X.blk s H scope (compEnvC scope cl C X.env) fp) x (tEv X.K rx)) (hs : ∀ v, foldedSetIterable it X.env v = pure v) :
    PE X (.ListComp x [⟨tg, it, [c], 0⟩] scope pos) (tEvN X.K (rCompI_ own t ri rc rx)) :=
  pe_imp (pe_lc hc hN hi ok hg (fun s H C cl fp => pts_one (ht s H C cl fp)) he hs) (compI_read hin)
theorem rComp_lst {env : Env} {m m' : M} {d : D} (h : rComp_ own t ri rx env m = some (d, m')) : ∃ ds, d = .lst ds := by
  obtain ⟨p, h1, e⟩ := Option.bind_eq_some_iff.mp h
  split at e
  · obtain ⟨q, h2, e⟩ := Option.map_eq_some_iff.mp e
    cases e; exact ⟨_, rfl⟩
  · cases e
theorem rCompI_lst {env : Env} {m m' : M} {d : D} (h : rCompI_ own t ri rc rx env m = some (d, m')) : ∃ ds, d = .lst ds := by
  obtain ⟨p, h1, e⟩ := Option.bind_eq_some_iff.mp h
  split at e
  · obtain ⟨q, h2, e⟩ := Option.map_eq_some_iff.mp e
    cases e; exact ⟨_, rfl⟩
  · cases e

/-! ### y = [..] on one line -/
variable {y : Str} {py spos : Pos} {i : Nat}
theorem s_setLc {t : Tg} (hc : X.calm = true) (hN : X.N.Nodup) (hy : X.N[i]? = some y) (hyl : X.env.scope.names.lookup y = some .local)
    (hsw : swapsWith (.ListComp x [⟨tg, it, [], 0⟩] scope pos) (some (.Name y py)) spos.line X.env = pure true) (hi : PI X tg it (tEvI X.K ri)) (ok : BlkOk X.N X.env.scope scope own)
    (hg : ∀ (s : Shared) (H : Hp) (C : Addr) (cl : List (Str × Addr)) (fp : List Addr), PG (X.blk s H scope (compEnvC scope cl C X.env) fp) tg (gT X.K t))
    (he : ∀ (s : Shared) (H : Hp) (C : Addr) (cl : List (Str × Addr)) (fp : List Addr), PE (X.blk s H scope (compEnvC scope cl C X.env) fp) x (tEv X.K rx)) (hs : ∀ v, foldedSetIterable it X.env v = pure v) :
    PS X (.Assign [.Name y py] (.ListComp x [⟨tg, it, [], 0⟩] scope pos) spos) (tAsg (tLc (tEvI X.K ri) (gT X.K t) tYes (tEv X.K rx) (own.map (·.2))) (gName i)) :=
  ps_setLc hc hN hy hyl hsw hi ok hg (fun _ _ _ _ _ => pts_nil) he hs
theorem s_setLcI {t : Tg} (hc : X.calm = true) (hN : X.N.Nodup) (hy : X.N[i]? = some y) (hyl : X.env.scope.names.lookup y = some .local)
    (hsw : swapsWith (.ListComp x [⟨tg, it, [c], 0⟩] scope pos) (some (.Name y py)) spos.line X.env = pure true) (hi : PI X tg it (tEvI X.K ri)) (ok : BlkOk X.N X.env.scope scope own)
    (hg : ∀ (s : Shared) (H : Hp) (C : Addr) (cl : List (Str × Addr)) (fp : List Addr), PG (X.blk s H scope (compEnvC scope cl C X.env) fp) tg (gT X.K t))
    (ht : ∀ (s : Shared) (H : Hp) (C : Addr) (cl : List (Str × Addr)) (fp : List Addr), PT (X.blk s H scope (compEnvC scope cl C X.env) fp) c (tEvT X.K rc))
    (he : ∀ (s : Shared) (H : Hp) (C : Addr) (cl : List (Str × Addr)) (fp : List Addr), PE (X.blk s H scope (compEnvC scope cl C X.env) fp) x (tEv X.K rx)) (hs : ∀ v, foldedSetIterable it X.env v = pure v) :
    PS X (.Assign [.Name y py] (.ListComp x [⟨tg, it, [c], 0⟩] scope pos) spos) (tAsg (tLc (tEvI X.K ri) (gT X.K t) (tEvT X.K rc) (tEv X.K rx) (own.map (·.2))) (gName i)) :=
  ps_setLc hc hN hy hyl hsw hi ok hg (fun s H C cl fp => pts_one (ht s H C cl fp)) he hs
end
end Pv

namespace Pv
open PySem L2

/-! ## the check: this term of ours is that expression of the row -/
def Sx_.blk (S : Sx_) (scope : Scope) : Sx_ := ⟨S.N, relS scope S.sc, fun x => scope.names.lookup x == some .cell⟩
def visB (S : Sx_) (x : Str) : Bool := (match S.sc.names.lookup x with
  | some .local => true
  | some .cell => true
  | some .free => true
  | _ => false) && !(x == ("__debug__" : Str)) && !(x == ("__classdict__" : Str))
def glB (S : Sx_) (x : Str) : Bool := decide (S.sc.names.lookup x = some .globalImplicit) && !(x == ("__debug__" : Str))
def conB : D → Const → Bool
  | .non, .none => true
  | .bl b, .bool b' => b == b'
  | .int i, .int j => decide (i = j)
  | .str x, .str y => decide (x = y)
  | _, _ => false
def isNew : E → Bool
  | .lst _ => true
  | .comp .. => true
  | .compIf .. => true
  | .listRg _ => true
  | .bi .list _ => true
  | .bin .add _ _ => true
  | .bin .mul _ _ => true
  | _ => false
def isTupE : Expr → Bool
  | .Tuple .. => true
  | _ => false
section
variable (T : List FnD) (G : List (Str × D))
mutual
def isE (S : Sx_) : E → Expr → Bool
  | .nop, _ => false
  | .var i, x => match x with
    | .Name s _ => decide (S.N[i]? = some s) && visB S s
    | _ => false
  | .con d, x => match x with
    | .Constant c _ _ => conB d c
    | _ => false
  | .glob k, x => match x with
    | .Name s _ => decide ((G[k]?).map (·.1) = some s) && glB S s
    | _ => false
  | .bin op a b, x => match x with
    | .BinOp l o r _ => bopB op o && isE S a l && isE S b r
    | _ => false
  | .neg a, x => match x with
    | .UnaryOp .USub y _ => isE S a y
    | _ => false
  | .cmp op a b, x => match x with
    | .Compare l [o] [r] _ => copB op o && isE S a l && isE S b r
    | _ => false
  | .chain o p a b c, x => match x with
    | .Compare l [o', p'] [r, r'] _ => copB o o' && copB p p' && isE S a l && isE S b r && isE S c r'
    | _ => false
  | .isN a, x => match x with
    | .Compare l [.Is] [.Constant .none _ _] _ => isE S a l
    | _ => false
  | .notN a, x => match x with
    | .Compare l [.IsNot] [.Constant .none _ _] _ => isE S a l
    | _ => false
  | .and_ a b, x => match x with
    | .BoolOp .And (l :: r :: rest) pos => isE S a l && isE S b (.BoolOp .And (r :: rest) pos)
    | _ => false
  | .and1 a, x => match x with
    | .BoolOp .And [l] _ => isE S a l
    | _ => false
  | .or_ a b, x => match x with
    | .BoolOp .Or (l :: r :: rest) pos => isE S a l && isE S b (.BoolOp .Or (r :: rest) pos)
    | _ => false
  | .or1 a, x => match x with
    | .BoolOp .Or [l] _ => isE S a l
    | _ => false
  | .not_ a, x => match x with
    | .UnaryOp .Not y _ => isE S a y
    | _ => false
  | .ife c a b, x => match x with
    | .IfExp t l r _ => isE S c t && isE S a l && isE S b r
    | _ => false
  | .call f as, x => match x with
    | .Call (.Name nm _) xs [] _ => decide ((T[f]?).map (·.nm) = some nm) && glB S nm && isEs S as xs
    | _ => false
  | .callP f as, x => match x with
    | .Call (.Name nm _) xs [] _ => decide ((T[f]?).map (·.nm) = some nm) && glB S nm && isEs S as xs
    | _ => false
  | .bi b as, x => match x with
    | .Call (.Name nm _) (z :: zs) [] _ => decide (nm = biNm b) && glB S nm && isEs S as (z :: zs)
    | _ => false
  | .isi a t, x => match x with
    | .Call (.Name nm _) [z, .Name ty _] [] _ => decide (nm = "isinstance") && glB S nm && decide (ty = tyNm t) && glB S ty && isE S a z
    | _ => false
  | .listRg a, x => match x with
    | .Call (.Name nm _) [.Call (.Name ty _) [z] [] _] [] _ => decide (nm = "list") && glB S nm && decide (ty = "range") && glB S ty && isE S a z
    | _ => false
  | .ix a b, x => match x with
    | .Subscript l r _ => isE S a l && isE S b r
    | _ => false
  | .sl a lo hi, x => match x with
    | .Subscript l (.Slice r r' none _) _ => isE S a l && (match r with
        | none => isNop lo
        | some z => !isNop lo && isE S lo z) && (match r' with
        | none => isNop hi
        | some z => !isNop hi && isE S hi z)
    | _ => false
  | .tup as, x => match x with
    | .Tuple xs _ _ => isEs S as xs
    | _ => false
  | .lst as, x => match x with
    | .List xs _ => isEs S as xs
    | _ => false
  | .comp own t it e, x => match x with
    | .ListComp z [⟨tg, i, [], a⟩] scope _ => decide (a = 0) && blkC S.N S.sc scope own && tgIn (own.map (·.2)) t && isI S it i (isTupE tg) && isTg (S.blk scope) t tg && isE (S.blk scope) e z
    | _ => false
  | .compIf own t it c e, x => match x with
    | .ListComp z [⟨tg, i, [y], a⟩] scope _ => decide (a = 0) && blkC S.N S.sc scope own && tgIn (own.map (·.2)) t && isI S it i (isTupE tg) && isTg (S.blk scope) t tg && isE (S.blk scope) c y && isE (S.blk scope) e z
    | _ => false
  | .box a, x => isNew a && isE S a x
  | .pop a, x => match x with
    | .Call (.Attribute (.Name s p) nm ap) [] [] pos => decide (nm = "pop") && (ap.endLine == pos.line) && isE S a (.Name s p)
    | _ => false
  | .popAt a b, x => match x with
    | .Call (.Attribute (.Name s p) nm ap) [y] [] pos => decide (nm = "pop") && (ap.endLine == pos.line) && isE S a (.Name s p) && isE S b y
    | _ => false
  | .append a b, x => match x with
    | .Call (.Attribute (.Name s p) nm ap) [y] [] pos => decide (nm = "append") && (ap.endLine == pos.line) && isE S a (.Name s p) && isE S b y
    | _ => false
  | .rev a, x => match x with
    | .Subscript l (.Slice none none (some (.UnaryOp .USub (.Constant (.int i) _ _) _)) _) _ => decide (i = 1) && isE S a l
    | _ => false
  | .join a b, x => match x with
    | .Call (.Attribute (.Constant c k p) nm ap) [y] [] pos => decide (nm = "join") && (ap.endLine == pos.line) && isE S a (.Constant c k p) && isE S b y
    | _ => false
  | .fmt a, x => match x with
    | .FormattedValue y c none _ => decide (c = -1) && isE S a y
    | _ => false
  | .fstr as, x => match x with
    | .JoinedStr (y :: z :: r) _ => isEs S as (y :: z :: r)
    | _ => false
def isEs (S : Sx_) : Es → List Expr → Bool
  | .nil, xs => match xs with
    | [] => true
    | _ => false
  | .cons e es, xs => match xs with
    | x :: r => isE S e x && isEs S es r
    | _ => false
def isI (S : Sx_) : It → Expr → Bool → Bool
  | .seq e, x, _ => isE S e x
  | .rng1 e, x, _ => match x with
    | .Call (.Name nm _) [z] [] _ => decide (nm = "range") && glB S nm && isE S e z
    | _ => false
  | .rng2 a b, x, _ => match x with
    | .Call (.Name nm _) [z, y] [] _ => decide (nm = "range") && glB S nm && isE S a z && isE S b y
    | _ => false
  | .zip a b, x, tp => match x with
    | .Call (.Name nm _) [z, y] [] _ => tp && decide (nm = "zip") && glB S nm && isE S a z && isE S b y
    | _ => false
  | .zipS a b, x, tp => match x with
    | .Call (.Name nm _) [z, y] [⟨some kw, .Constant (.bool true) _ _, _⟩] _ => tp && decide (nm = "zip") && decide (kw = "strict") && glB S nm && isE S a z && isE S b y
    | _ => false
end
end

/-! ## shapes -/
def plB : Expr → Bool
  | .Starred .. => false
  | .Slice .. => false
  | .Set .. => false
  | .SetComp .. => false
  | .DictComp .. => false
  | _ => true
theorem is_pl {T : List FnD} {G : List (Str × D)} {S : Sx_} : ∀ {e : E} {x : Expr}, isE T G S e x = true → plB x = true
  | .box a, x, h => by
    simp only [isE, Bool.and_eq_true] at h
    exact is_pl h.2
  | .nop, x, h => by simp [isE] at h
  | .var _, x, h | .con _, x, h | .glob _, x, h | .bin _ _ _, x, h | .neg _, x, h | .cmp _ _ _, x, h | .chain _ _ _ _ _, x, h | .isN _, x, h | .notN _, x, h | .and_ _ _, x, h | .and1 _, x, h | .or_ _ _, x, h | .or1 _, x, h | .not_ _, x, h | .ife _ _ _, x, h | .call _ _, x, h | .callP _ _, x, h | .bi _ _, x, h | .isi _ _, x, h
  | .listRg _, x, h | .ix _ _, x, h | .sl _ _ _, x, h | .tup _, x, h | .lst _, x, h | .comp _ _ _ _, x, h | .compIf _ _ _ _ _, x, h | .pop _, x, h | .popAt _ _, x, h | .append _ _, x, h | .rev _, x, h | .join _ _, x, h | .fmt _, x, h | .fstr _, x, h => by
    simp only [isE] at h
    split at h <;> first | rfl | cases h
section
variable {x : Expr} (h : plB x = true)
include h
theorem pl_star (xs : List Expr) (env : PySem.Env) : starEach (x :: xs) env = (false, eval x env) :: starEach xs env := by
  cases x <;> first | rfl | cases h
theorem pl_ix : PlainIx x := by
  cases x <;> first | (exact fun _ _ => rfl) | cases h
theorem pl_mark (op : CmpOp) : behindInMarks op x = false := by
  cases x <;> first | rfl | cases h
theorem pl_fold (env : PySem.Env) (v : Value) : foldedSetIterable x env v = pure v := by
  cases x <;> first | rfl | cases h
end
theorem any_star : ∀ (xs : List Expr) (env : PySem.Env) (pos : Pos), (∀ x ∈ xs, plB x = true) → (backTo pos (starEach xs env)).any (·.1) = false
  | [], _, _, _ => rfl
  | x :: xs, env, pos, h => by
    have ih := any_star xs env pos fun y hy => h y (List.mem_cons_of_mem _ hy)
    rw [pl_star (h x List.mem_cons_self)]
    show (false || (backTo pos (starEach xs env)).any (·.1)) = false
    rw [ih]; rfl
theorem is_pls {T : List FnD} {G : List (Str × D)} {S : Sx_} : ∀ {es : Es} {xs : List Expr}, isEs T G S es xs = true → ∀ x ∈ xs, plB x = true
  | .nil, [], _ => fun _ q => nomatch q
  | .nil, _ :: _, h => by simp [isEs] at h
  | .cons e es, [], h => by simp [isEs] at h
  | .cons e es, x :: xs, h => by
    simp only [isEs, Bool.and_eq_true] at h
    intro y hy
    rcases List.mem_cons.mp hy with rfl | hy
    · exact is_pl h.1
    · exact is_pls h.2 y hy

/-! ## the context -/
def bnames : List Str := ["len", "int", "tuple", "list", "sum", "all", "any", "max", "min", "isinstance", "range", "zip", "bool", "str", "sorted"]
structure Cok (X : Cx) (n : Nat) (T : List FnD) (F : Fn) (G : List (Str × D)) : Prop where
  fn : ∀ (i : Nat) (fd : FnD), T[i]? = some fd → ∃ f fdat, FnK X.prog X.w X.K X.mg X.base n f fdat fd.ps (spF X.K fd.ps.length (F i)) ∧ Binds X.K fdat fd.ps [] ∧ PySem.W.keepIn X.K (.ref f) = true ∧ X.mg fd.nm = some (.ref f) ∧ (∀ ds m r, F i ds m = some r → ds.length = fd.ps.length)
  room : Rm n X.A
  bl : ∀ x ∈ bnames, X.mg x = none
  gl : ∀ (i : Nat) (x : Str) (d : D), G[i]? = some (x, d) → ∃ v u, X.mg x = some u ∧ RelV v u ∧ ∀ Z ph H, RepV X.K Z ph H v d
theorem Cok.blk {X : Cx} {n : Nat} {T : List FnD} {F : Fn} {G : List (Str × D)} (C : Cok X n T F G) (s : Shared) (H : Hp) (scope : Scope) (env : PySem.Env) (fp : List Addr) : Cok (X.blk s H scope env fp) n T F G := ⟨C.fn, C.room, C.bl, C.gl⟩
theorem XOk.blk {X : Cx} {S : Sx_} (hX : XOk X S) (s : Shared) (H : Hp) (scope : Scope) (C : Addr) (cl : List (Str × Addr)) (fp : List Addr) : XOk (X.blk s H scope (compEnvC scope cl C X.env) fp) (S.blk scope) := by
  refine ⟨hX.n, ?_, rfl, hX.calm, hX.nd, hX.un⟩
  show relS scope X.env.scope = relS scope S.sc
  rw [hX.sc]
section
variable {X : Cx} {S : Sx_} (hX : XOk X S)
include hX
theorem visB_ok {x : Str} (h : visB S x = true) : Vis X.env.scope x ∧ (x == ("__debug__" : Str)) = false ∧ (x == ("__classdict__" : Str)) = false := by
  simp only [visB, Bool.and_eq_true, Bool.not_eq_true'] at h
  refine ⟨?_, h.1.2, h.2⟩
  unfold Vis
  rw [hX.sc]
  have h := h.1.1
  split at h
  · exact .inl (by assumption)
  · exact .inr (.inl (by assumption))
  · exact .inr (.inr (by assumption))
  · cases h
theorem glB_ok {x : Str} (h : glB S x = true) : Gl X x ∧ (x == ("__debug__" : Str)) = false := by
  simp only [glB, Bool.and_eq_true, Bool.not_eq_true', decide_eq_true_eq] at h
  refine ⟨?_, h.2⟩
  unfold Gl Env.kindOf
  rw [hX.sc]
  exact h.1
end
theorem conB_ok {d : D} {c : Const} (h : conB d c = true) : conP d c := by
  unfold conB at h
  split at h
  · trivial
  · exact eq_of_beq h
  · exact (of_decide_eq_true h : _ = _)
  · exact (of_decide_eq_true h : _ = _)
  · cases h
def isBO : E → Bool
  | .and_ .. => true
  | .and1 _ => true
  | .or_ .. => true
  | .or1 _ => true
  | _ => false
end Pv

namespace Pv
open PySem L2
def gv (G : List (Str × D)) : List D := G.map (·.2)
theorem nil_rs {T : List FnD} {G : List (Str × D)} {S : Sx_} {F : Fn} {as : Es} {xs : List Expr} (h : isEs T G S as xs = true) (e : xs = []) : (fun env m => evA F (gv G) as env m) = fun _ m => some ([], m) := by
  subst e
  cases as with
  | nil => funext env m; rw [evA]
  | cons a b => simp [isEs] at h
theorem is_nop {T : List FnD} {G : List (Str × D)} {S : Sx_} {lo : E} {x : Expr} (h : isE T G S lo x = true) : isNop lo = false := by
  cases lo <;> first | rfl | (simp [isE] at h)
theorem tru_plain {T : List FnD} {G : List (Str × D)} {S : Sx_} {e : E} {x : Expr} (h : isE T G S e x = true) (hb : match e with
    | .cmp .. => False | .chain .. => False | .isN _ => False | .notN _ => False | .and_ .. => False | .and1 .. => False | .or_ .. => False | .or1 .. => False | .not_ _ => False | .ife .. => False | .box _ => False | _ => True) (env : PySem.Env) :
    ∀ whole, isTrue x env whole = (do let v ← whole; standAt x.pos; holding [v] (truthy v)) := by
  cases e <;> first | (exact False.elim hb) | skip
  all_goals (simp only [isE] at h; try (split at h)) 
  all_goals first | (intro _; rfl) | (cases h) | skip
theorem isBO_of {T : List FnD} {G : List (Str × D)} {S : Sx_} {b : E} {op : BoolOp} {xs : List Expr} {pos : Pos} (h : isE T G S b (.BoolOp op xs pos) = true) : isBO b = true := by
  cases b <;> first | rfl | (exfalso; simp [isE] at h; done) | skip
  rename_i a
  exfalso
  simp only [isE, Bool.and_eq_true] at h
  obtain ⟨h1, h2⟩ := h
  cases a <;> simp [isNew] at h1 <;> simp [isE] at h2
section
variable {n : Nat} {T : List FnD} {F : Fn} {G : List (Str × D)}
mutual
theorem okE : ∀ (e : E) {X : Cx} {S : Sx_} (C : Cok X n T F G) (hX : XOk X S) (x : Expr), isE T G S e x = true → PE X x (tEv X.K fun env m => evE F (gv G) e env m)
  | .nop, X, S, C, hX, x, h => by simp [isE] at h
  | .var i, X, S, C, hX, x, h => by
    simp only [isE] at h
    split at h
    · rename_i s p
      simp only [Bool.and_eq_true, decide_eq_true_eq] at h
      obtain ⟨h1, h2, h3⟩ := visB_ok hX h.2
      simp only [evE]
      exact n_var (by rw [hX.n]; exact h.1) h1 h2 h3
    · cases h
  | .con d, X, S, C, hX, x, h => by
    simp only [isE] at h
    split at h
    · simp only [evE]
      exact n_con (conB_ok h)
    · cases h
  | .glob k, X, S, C, hX, x, h => by
    simp only [isE] at h
    split at h
    · rename_i s p
      simp only [Bool.and_eq_true, decide_eq_true_eq] at h
      obtain ⟨h1, h2⟩ := glB_ok hX h.2
      obtain ⟨⟨s', d⟩, e1, e2⟩ := Option.map_eq_some_iff.mp h.1
      simp only at e2
      subst e2
      obtain ⟨v, u, m1, m2, m3⟩ := C.gl k s' d e1
      have e3 : (gv G)[k]? = some d := by unfold gv; rw [List.getElem?_map, e1]; rfl
      simp only [evE, e3]
      exact n_glob h1 m1 m2 m3 h2
    · cases h
  | .bin op a b, X, S, C, hX, x, h => by
    simp only [isE] at h
    split at h
    · simp only [Bool.and_eq_true] at h
      simp only [evE]
      exact n_bin h.1.1 (okE a C hX _ h.1.2) (okE b C hX _ h.2)
    · cases h
  | .neg a, X, S, C, hX, x, h => by
    simp only [isE] at h
    split at h
    · simp only [evE]
      exact n_neg (okE a C hX _ h)
    · cases h
  | .cmp op a b, X, S, C, hX, x, h => by
    simp only [isE] at h
    split at h
    · simp only [Bool.and_eq_true] at h
      simp only [evE]
      exact n_cmp hX.un h.1.1 (okE a C hX _ h.1.2) (okE b C hX _ h.2) (pl_mark (is_pl h.2) _)
    · cases h
  | .chain o p a b c, X, S, C, hX, x, h => by
    simp only [isE] at h
    split at h
    · simp only [Bool.and_eq_true] at h
      simp only [evE]
      exact n_chain hX.un h.1.1.1.1 h.1.1.1.2 (okE a C hX _ h.1.1.2) (okE b C hX _ h.1.2) (okE c C hX _ h.2) (pl_mark (is_pl h.2) _)
    · cases h
  | .isN a, X, S, C, hX, x, h => by
    simp only [isE] at h
    split at h
    · simp only [evE]
      exact n_isN (okE a C hX _ h)
    · cases h
  | .notN a, X, S, C, hX, x, h => by
    simp only [isE] at h
    split at h
    · simp only [evE]
      exact n_notN (okE a C hX _ h)
    · cases h
  | .and_ a b, X, S, C, hX, x, h => by
    simp only [isE] at h
    split at h
    · simp only [Bool.and_eq_true] at h
      simp only [evE]
      exact n_and (okE a C hX _ h.1) (okE b C hX _ h.2)
    · cases h
  | .and1 a, X, S, C, hX, x, h => by
    simp only [isE] at h
    split at h
    · simp only [evE]
      exact n_and1 (okE a C hX _ h)
    · cases h
  | .or_ a b, X, S, C, hX, x, h => by
    simp only [isE] at h
    split at h
    · simp only [Bool.and_eq_true] at h
      simp only [evE]
      exact n_or (okE a C hX _ h.1) (okE b C hX _ h.2)
    · cases h
  | .or1 a, X, S, C, hX, x, h => by
    simp only [isE] at h
    split at h
    · simp only [evE]
      exact n_or1 (okE a C hX _ h)
    · cases h
  | .not_ a, X, S, C, hX, x, h => by
    simp only [isE] at h
    split at h
    · simp only [evE]
      exact n_not (okE a C hX _ h)
    · cases h
  | .ife c a b, X, S, C, hX, x, h => by
    simp only [isE] at h
    split at h
    · simp only [Bool.and_eq_true] at h
      simp only [evE]
      exact n_ife (okT c C hX _ h.1.1) (okE a C hX _ h.1.2) (okE b C hX _ h.2)
    · cases h
  | .call f as, X, S, C, hX, x, h => by
    simp only [isE] at h
    split at h
    · rename_i nm p xs pos
      simp only [Bool.and_eq_true, decide_eq_true_eq] at h
      obtain ⟨h1, h2⟩ := glB_ok hX h.1.2
      obtain ⟨fd, e1, e2⟩ := Option.map_eq_some_iff.mp h.1.1
      subst e2
      obtain ⟨g, fdat, k1, k2, k3, k4, k5⟩ := C.fn f fd e1
      have pls := is_pls h.2
      simp only [evE]
      exact n_callG k1 (fun _ _ _ q => call_sp k5 q) C.room h1 k4 k3 k2 (okA as C hX _ h.2) (fun z zs e => pl_star (pls z (by rw [e]; exact List.mem_cons_self)) _ _) (fun z zs e => any_star _ _ _ fun y hy => pls y (by rw [e]; exact List.mem_cons_of_mem _ hy)) (nil_rs h.2) h2
    · cases h
  | .callP f as, X, S, C, hX, x, h => by
    simp only [isE] at h
    split at h
    · rename_i nm p xs pos
      simp only [Bool.and_eq_true, decide_eq_true_eq] at h
      obtain ⟨h1, h2⟩ := glB_ok hX h.1.2
      obtain ⟨fd, e1, e2⟩ := Option.map_eq_some_iff.mp h.1.1
      subst e2
      obtain ⟨g, fdat, k1, k2, k3, k4, k5⟩ := C.fn f fd e1
      have pls := is_pls h.2
      simp only [evE]
      exact n_callG k1 (fun _ _ _ q => callP_sp k5 q) C.room h1 k4 k3 k2 (okA as C hX _ h.2) (fun z zs e => pl_star (pls z (by rw [e]; exact List.mem_cons_self)) _ _) (fun z zs e => any_star _ _ _ fun y hy => pls y (by rw [e]; exact List.mem_cons_of_mem _ hy)) (nil_rs h.2) h2
    · cases h
  | .bi b as, X, S, C, hX, x, h => by
    simp only [isE] at h
    split at h
    · rename_i nm p z zs pos
      simp only [Bool.and_eq_true, decide_eq_true_eq] at h
      obtain ⟨h1, h2⟩ := glB_ok hX h.1.2
      have e := h.1.1
      subst e
      have pls := is_pls h.2
      simp only [evE]
      exact n_bi hX.calm h1 (C.bl _ (by cases b <;> decide)) (okA as C hX _ h.2) (pl_star (pls z List.mem_cons_self) _ _) (any_star _ _ _ fun y hy => pls y (List.mem_cons_of_mem _ hy))
    · cases h
  | .isi a t, X, S, C, hX, x, h => by
    simp only [isE] at h
    split at h
    · rename_i nm p z ty p2 pos
      simp only [Bool.and_eq_true, decide_eq_true_eq] at h
      obtain ⟨⟨⟨⟨e1, g1⟩, e2⟩, g2⟩, h⟩ := h
      subst e1 e2
      simp only [evE]
      exact n_isi (glB_ok hX g1).1 (C.bl _ (by decide)) (glB_ok hX g2).1 (C.bl _ (by cases t <;> decide)) (okE a C hX _ h) (fun zs => pl_star (is_pl h) _ _)
    · cases h
  | .listRg a, X, S, C, hX, x, h => of_new (okN (.listRg a) C hX x (by rfl) h) fun env m d m' e => by
      simp only [evE] at e
      exact rListRg_lst e
  | .ix a b, X, S, C, hX, x, h => by
    simp only [isE] at h
    split at h
    · simp only [Bool.and_eq_true] at h
      simp only [evE]
      exact n_ix (okE a C hX _ h.1) (okE b C hX _ h.2) (pl_ix (is_pl h.2))
    · cases h
  | .sl a lo hi, X, S, C, hX, x, h => by
    simp only [isE] at h
    split at h
    · rename_i l r r' p2 pos
      simp only [Bool.and_eq_true] at h
      obtain ⟨⟨h1, h2⟩, h3⟩ := h
      simp only [evE]
      refine n_sl (okE a C hX _ h1) ?_ ?_
      · cases r with
        | none => simp only at h2; rw [h2]; exact o_none
        | some z =>
          simp only [Bool.and_eq_true] at h2
          rw [is_nop h2.2]
          exact o_some (okE lo C hX _ h2.2)
      · cases r' with
        | none => simp only at h3; rw [h3]; exact o_none
        | some z =>
          simp only [Bool.and_eq_true] at h3
          rw [is_nop h3.2]
          exact o_some (okE hi C hX _ h3.2)
    · cases h
  | .tup as, X, S, C, hX, x, h => by
    simp only [isE] at h
    split at h
    · simp only [evE]
      exact n_tup (okA as C hX _ h)
    · cases h
  | .lst as, X, S, C, hX, x, h => of_new (okN (.lst as) C hX x (by rfl) h) fun env m d m' e => by
      simp only [evE] at e
      obtain ⟨p, h1, e⟩ := Option.bind_eq_some_iff.mp e
      split at e
      · cases e; exact ⟨_, rfl⟩
      · cases e
  | .comp own t it e, X, S, C, hX, x, h => of_new (okN (.comp own t it e) C hX x (by rfl) h) fun env m d m' e => by
      simp only [evE] at e
      exact rComp_lst e
  | .compIf own t it c e, X, S, C, hX, x, h => of_new (okN (.compIf own t it c e) C hX x (by rfl) h) fun env m d m' e => by
      simp only [evE] at e
      exact rCompI_lst e
  | .box a, X, S, C, hX, x, h => by
    simp only [isE, Bool.and_eq_true] at h
    simp only [evE]
    exact n_box (okN a C hX x h.1 h.2)
  | .pop a, X, S, C, hX, x, h => by
    simp only [isE] at h
    split at h
    · simp only [Bool.and_eq_true, decide_eq_true_eq] at h
      obtain ⟨⟨e1, e2⟩, h⟩ := h
      subst e1
      simp only [evE]
      exact n_pop (okE a C hX _ h) e2
    · cases h
  | .popAt a b, X, S, C, hX, x, h => by
    simp only [isE] at h
    split at h
    · simp only [Bool.and_eq_true, decide_eq_true_eq] at h
      obtain ⟨⟨⟨e1, e2⟩, h⟩, h'⟩ := h
      subst e1
      simp only [evE]
      exact n_popAt (okE a C hX _ h) (okE b C hX _ h') e2 (pl_star (is_pl h') _ _)
    · cases h
  | .append a b, X, S, C, hX, x, h => by
    simp only [isE] at h
    split at h
    · simp only [Bool.and_eq_true, decide_eq_true_eq] at h
      obtain ⟨⟨⟨e1, e2⟩, h⟩, h'⟩ := h
      subst e1
      simp only [evE]
      exact n_append (okE a C hX _ h) (okE b C hX _ h') e2 (pl_star (is_pl h') _ _)
    · cases h
  | .rev a, X, S, C, hX, x, h => by
    simp only [isE] at h
    split at h
    · simp only [Bool.and_eq_true, decide_eq_true_eq] at h
      obtain ⟨e1, h⟩ := h
      subst e1
      simp only [evE]
      exact n_rev (okE a C hX _ h)
    · cases h
  | .join a b, X, S, C, hX, x, h => by
    simp only [isE] at h
    split at h
    · simp only [Bool.and_eq_true, decide_eq_true_eq] at h
      obtain ⟨⟨⟨e1, e2⟩, h⟩, h'⟩ := h
      subst e1
      simp only [evE]
      exact n_join (okE a C hX _ h) (okE b C hX _ h') e2 (pl_star (is_pl h') _ _)
    · cases h
  | .fmt a, X, S, C, hX, x, h => by
    simp only [isE] at h
    split at h
    · simp only [Bool.and_eq_true, decide_eq_true_eq] at h
      obtain ⟨e1, h⟩ := h
      subst e1
      simp only [evE]
      exact n_fmt (okE a C hX _ h)
    · cases h
  | .fstr as, X, S, C, hX, x, h => by
    simp only [isE] at h
    split at h
    · simp only [evE]
      exact n_fstr (okJ as C hX _ h)
    · cases h
termination_by e => (sizeOf e, 1)
/-- new lists -/
theorem okN : ∀ (e : E) {X : Cx} {S : Sx_} (C : Cok X n T F G) (hX : XOk X S) (x : Expr), isNew e = true → isE T G S e x = true → PE X x (tEvN X.K fun env m => evE F (gv G) e env m)
  | .listRg a, X, S, C, hX, x, _, h => by
    simp only [isE] at h
    split at h
    · rename_i nm p ty p2 z ap pos
      simp only [Bool.and_eq_true, decide_eq_true_eq] at h
      obtain ⟨⟨⟨⟨e1, g1⟩, e2⟩, g2⟩, h⟩ := h
      subst e1 e2
      simp only [evE]
      exact n_listRgN hX.calm (glB_ok hX g1).1 (C.bl _ (by decide)) (glB_ok hX g2).1 (C.bl _ (by decide)) (okE a C hX _ h) (pl_star (is_pl h) _ _)
    · cases h
  | .lst as, X, S, C, hX, x, _, h => by
    simp only [isE] at h
    split at h
    · simp only [evE]
      exact n_lstN (okA as C hX _ h)
    · cases h
  | .bi .list as, X, S, C, hX, x, _, h => by
    simp only [isE] at h
    split at h
    · rename_i nm p z zs pos
      simp only [Bool.and_eq_true, decide_eq_true_eq] at h
      obtain ⟨h1, h2⟩ := glB_ok hX h.1.2
      have e : nm = "list" := h.1.1
      subst e
      have pls := is_pls h.2
      simp only [evE]
      exact n_listN hX.calm h1 (C.bl _ (by decide)) (okA as C hX _ h.2) (pl_star (pls z List.mem_cons_self) _ _) (any_star _ _ _ fun y hy => pls y (List.mem_cons_of_mem _ hy))
    · cases h
  | .bin op a b, X, S, C, hX, x, hn, h => by
    simp only [isE] at h
    split at h
    · simp only [Bool.and_eq_true] at h
      simp only [evE]
      exact n_binN h.1.1 (by cases op <;> simp [isNew] at hn ⊢) (okE a C hX _ h.1.2) (okE b C hX _ h.2)
    · cases h
  | .comp own t it e, X, S, C, hX, x, _, h => by
    simp only [isE] at h
    split at h
    · rename_i z tg i a scope pos
      simp only [Bool.and_eq_true, decide_eq_true_eq] at h
      obtain ⟨⟨⟨⟨⟨e1, h2⟩, h3⟩, h4⟩, h5⟩, h6⟩ := h
      subst e1
      simp only [evE]
      have ok : BlkOk X.N X.env.scope scope own := by rw [hX.n, hX.sc]; exact blkOk_by h2
      have hi := okI it C hX tg i h4
      exact n_compN hX.calm hX.nd hi.1 ok h3 (fun s H c cl fp => okTg (hX.blk s H scope c cl fp) t tg h5) (fun s H c cl fp => okE e (C.blk s H scope _ fp) (hX.blk s H scope c cl fp) z h6) hi.2
    · cases h
  | .compIf own t it c e, X, S, C, hX, x, _, h => by
    simp only [isE] at h
    split at h
    · rename_i z tg i y a scope pos
      simp only [Bool.and_eq_true, decide_eq_true_eq] at h
      obtain ⟨⟨⟨⟨⟨⟨e1, h2⟩, h3⟩, h4⟩, h5⟩, h7⟩, h6⟩ := h
      subst e1
      simp only [evE]
      have ok : BlkOk X.N X.env.scope scope own := by rw [hX.n, hX.sc]; exact blkOk_by h2
      have hi := okI it C hX tg i h4
      exact n_compIN hX.calm hX.nd hi.1 ok h3 (fun s H c cl fp => okTg (hX.blk s H scope c cl fp) t tg h5) (fun s H c' cl fp => okT c (C.blk s H scope _ fp) (hX.blk s H scope c' cl fp) y h7) (fun s H c cl fp => okE e (C.blk s H scope _ fp) (hX.blk s H scope c cl fp) z h6) hi.2
    · cases h
  | .nop, X, S, C, hX, x, hn, h | .var _, X, S, C, hX, x, hn, h | .con _, X, S, C, hX, x, hn, h | .glob _, X, S, C, hX, x, hn, h | .neg _, X, S, C, hX, x, hn, h | .cmp _ _ _, X, S, C, hX, x, hn, h | .chain _ _ _ _ _, X, S, C, hX, x, hn, h | .isN _, X, S, C, hX, x, hn, h
  | .notN _, X, S, C, hX, x, hn, h | .and_ _ _, X, S, C, hX, x, hn, h | .and1 _, X, S, C, hX, x, hn, h | .or_ _ _, X, S, C, hX, x, hn, h | .or1 _, X, S, C, hX, x, hn, h | .not_ _, X, S, C, hX, x, hn, h | .ife _ _ _, X, S, C, hX, x, hn, h | .call _ _, X, S, C, hX, x, hn, h | .callP _ _, X, S, C, hX, x, hn, h
  | .bi .len _, X, S, C, hX, x, hn, h | .bi .int _, X, S, C, hX, x, hn, h | .bi .tuple _, X, S, C, hX, x, hn, h | .bi .sum _, X, S, C, hX, x, hn, h | .bi .all _, X, S, C, hX, x, hn, h | .bi .any _, X, S, C, hX, x, hn, h | .bi .max2 _, X, S, C, hX, x, hn, h | .bi .min2 _, X, S, C, hX, x, hn, h | .bi .sorted _, X, S, C, hX, x, hn, h | .bi .min1 _, X, S, C, hX, x, hn, h | .bi .max1 _, X, S, C, hX, x, hn, h | .bi .str _, X, S, C, hX, x, hn, h
  | .isi _ _, X, S, C, hX, x, hn, h | .ix _ _, X, S, C, hX, x, hn, h | .sl _ _ _, X, S, C, hX, x, hn, h | .tup _, X, S, C, hX, x, hn, h | .box _, X, S, C, hX, x, hn, h | .pop _, X, S, C, hX, x, hn, h | .popAt _ _, X, S, C, hX, x, hn, h | .append _ _, X, S, C, hX, x, hn, h | .rev _, X, S, C, hX, x, hn, h | .join _ _, X, S, C, hX, x, hn, h | .fmt _, X, S, C, hX, x, hn, h | .fstr _, X, S, C, hX, x, hn, h => by simp [isNew] at hn
termination_by e => (sizeOf e, 0)
/-- tests -/
theorem okT : ∀ (e : E) {X : Cx} {S : Sx_} (C : Cok X n T F G) (hX : XOk X S) (x : Expr), isE T G S e x = true → PT X x (tEvT X.K fun env m => evE F (gv G) e env m)
  | .cmp op a b, X, S, C, hX, x, h => by
    simp only [isE] at h
    split at h
    · simp only [Bool.and_eq_true] at h
      simp only [evE]
      exact t_cmp hX.un h.1.1 (okE a C hX _ h.1.2) (okE b C hX _ h.2) (pl_mark (is_pl h.2) _)
    · cases h
  | .chain o p a b c, X, S, C, hX, x, h => by
    simp only [isE] at h
    split at h
    · simp only [Bool.and_eq_true] at h
      simp only [evE]
      exact t_chain hX.un h.1.1.1.1 h.1.1.1.2 (okE a C hX _ h.1.1.2) (okE b C hX _ h.1.2) (okE c C hX _ h.2) (pl_mark (is_pl h.2) _)
    · cases h
  | .isN a, X, S, C, hX, x, h => by
    simp only [isE] at h
    split at h
    · simp only [evE]
      exact t_isN (okE a C hX _ h)
    · cases h
  | .notN a, X, S, C, hX, x, h => by
    simp only [isE] at h
    split at h
    · simp only [evE]
      exact t_notN (okE a C hX _ h)
    · cases h
  | .and_ a b, X, S, C, hX, x, h => (okW (.and_ a b) C hX x rfl h).pt
  | .and1 a, X, S, C, hX, x, h => (okW (.and1 a) C hX x rfl h).pt
  | .or_ a b, X, S, C, hX, x, h => (okW (.or_ a b) C hX x rfl h).pt
  | .or1 a, X, S, C, hX, x, h => (okW (.or1 a) C hX x rfl h).pt
  | .not_ a, X, S, C, hX, x, h => by
    simp only [isE] at h
    split at h
    · simp only [evE]
      exact t_not (okT a C hX _ h)
    · cases h
  | .ife c a b, X, S, C, hX, x, h => by
    simp only [isE] at h
    split at h
    · simp only [Bool.and_eq_true] at h
      simp only [evE]
      exact t_ife (okT c C hX _ h.1.1) (okT a C hX _ h.1.2) (okT b C hX _ h.2)
    · cases h
  | .box a, X, S, C, hX, x, h => ⟨fun pins s σ H Q I ⟨Z, ph, env, m, re, wd, d, m', e, q⟩ => by
      simp only [evE] at e
      obtain ⟨p, h1, e⟩ := Option.bind_eq_some_iff.mp e
      split at e <;> cases e⟩
  | .nop, X, S, C, hX, x, h => by simp [isE] at h
  | .var i, X, S, C, hX, x, h => t_val (okE (.var i) C hX x h) (tru_plain h trivial _)
  | .con i, X, S, C, hX, x, h => t_val (okE (.con i) C hX x h) (tru_plain h trivial _)
  | .glob i, X, S, C, hX, x, h => t_val (okE (.glob i) C hX x h) (tru_plain h trivial _)
  | .bin i j k, X, S, C, hX, x, h => t_val (okE (.bin i j k) C hX x h) (tru_plain h trivial _)
  | .neg i, X, S, C, hX, x, h => t_val (okE (.neg i) C hX x h) (tru_plain h trivial _)
  | .call i j, X, S, C, hX, x, h => t_val (okE (.call i j) C hX x h) (tru_plain h trivial _)
  | .callP i j, X, S, C, hX, x, h => t_val (okE (.callP i j) C hX x h) (tru_plain h trivial _)
  | .bi i j, X, S, C, hX, x, h => t_val (okE (.bi i j) C hX x h) (tru_plain h trivial _)
  | .isi i j, X, S, C, hX, x, h => t_val (okE (.isi i j) C hX x h) (tru_plain h trivial _)
  | .listRg i, X, S, C, hX, x, h => t_val (okE (.listRg i) C hX x h) (tru_plain h trivial _)
  | .ix i j, X, S, C, hX, x, h => t_val (okE (.ix i j) C hX x h) (tru_plain h trivial _)
  | .sl i j k, X, S, C, hX, x, h => t_val (okE (.sl i j k) C hX x h) (tru_plain h trivial _)
  | .tup i, X, S, C, hX, x, h => t_val (okE (.tup i) C hX x h) (tru_plain h trivial _)
  | .lst i, X, S, C, hX, x, h => t_val (okE (.lst i) C hX x h) (tru_plain h trivial _)
  | .comp i j k l, X, S, C, hX, x, h => t_val (okE (.comp i j k l) C hX x h) (tru_plain h trivial _)
  | .compIf i j k l o, X, S, C, hX, x, h => t_val (okE (.compIf i j k l o) C hX x h) (tru_plain h trivial _)
  | .pop i, X, S, C, hX, x, h => t_val (okE (.pop i) C hX x h) (tru_plain h trivial _)
  | .popAt i j, X, S, C, hX, x, h => t_val (okE (.popAt i j) C hX x h) (tru_plain h trivial _)
  | .append i j, X, S, C, hX, x, h => t_val (okE (.append i j) C hX x h) (tru_plain h trivial _)
  | .rev i, X, S, C, hX, x, h => t_val (okE (.rev i) C hX x h) (tru_plain h trivial _)
  | .join i j, X, S, C, hX, x, h => t_val (okE (.join i j) C hX x h) (tru_plain h trivial _)
  | .fmt i, X, S, C, hX, x, h => t_val (okE (.fmt i) C hX x h) (tru_plain h trivial _)
  | .fstr i, X, S, C, hX, x, h => t_val (okE (.fstr i) C hX x h) (tru_plain h trivial _)
termination_by e => (sizeOf e, 2)
theorem okW : ∀ (e : E) {X : Cx} {S : Sx_} (C : Cok X n T F G) (hX : XOk X S) (x : Expr), isBO e = true → isE T G S e x = true → PW X x (tEvT X.K fun env m => evE F (gv G) e env m)
  | .and_ a b, X, S, C, hX, x, _, h => by
    simp only [isE] at h
    split at h
    · simp only [Bool.and_eq_true] at h
      simp only [evE]
      have hb : isBO b = true := isBO_of h.2
      exact w_and (okT a C hX _ h.1) (okW b C hX _ hb h.2)
    · cases h
  | .and1 a, X, S, C, hX, x, _, h => by
    simp only [isE] at h
    split at h
    · simp only [evE]
      exact w_and1 (okT a C hX _ h)
    · cases h
  | .or_ a b, X, S, C, hX, x, _, h => by
    simp only [isE] at h
    split at h
    · simp only [Bool.and_eq_true] at h
      simp only [evE]
      have hb : isBO b = true := isBO_of h.2
      exact w_or (okT a C hX _ h.1) (okW b C hX _ hb h.2)
    · cases h
  | .or1 a, X, S, C, hX, x, _, h => by
    simp only [isE] at h
    split at h
    · simp only [evE]
      exact w_or1 (okT a C hX _ h)
    · cases h
  | .nop, X, S, C, hX, x, hn, h | .var _, X, S, C, hX, x, hn, h | .con _, X, S, C, hX, x, hn, h | .glob _, X, S, C, hX, x, hn, h | .bin _ _ _, X, S, C, hX, x, hn, h | .neg _, X, S, C, hX, x, hn, h | .cmp _ _ _, X, S, C, hX, x, hn, h | .chain _ _ _ _ _, X, S, C, hX, x, hn, h | .isN _, X, S, C, hX, x, hn, h
  | .notN _, X, S, C, hX, x, hn, h | .not_ _, X, S, C, hX, x, hn, h | .ife _ _ _, X, S, C, hX, x, hn, h | .call _ _, X, S, C, hX, x, hn, h | .callP _ _, X, S, C, hX, x, hn, h | .bi _ _, X, S, C, hX, x, hn, h | .listRg _, X, S, C, hX, x, hn, h | .lst _, X, S, C, hX, x, hn, h | .comp _ _ _ _, X, S, C, hX, x, hn, h | .compIf _ _ _ _ _, X, S, C, hX, x, hn, h
  | .isi _ _, X, S, C, hX, x, hn, h | .ix _ _, X, S, C, hX, x, hn, h | .sl _ _ _, X, S, C, hX, x, hn, h | .tup _, X, S, C, hX, x, hn, h | .box _, X, S, C, hX, x, hn, h | .pop _, X, S, C, hX, x, hn, h | .popAt _ _, X, S, C, hX, x, hn, h | .append _ _, X, S, C, hX, x, hn, h | .rev _, X, S, C, hX, x, hn, h | .join _ _, X, S, C, hX, x, hn, h | .fmt _, X, S, C, hX, x, hn, h | .fstr _, X, S, C, hX, x, hn, h => by cases hn
termination_by e => (sizeOf e, 1)
theorem okA : ∀ (es : Es) {X : Cx} {S : Sx_} (C : Cok X n T F G) (hX : XOk X S) (xs : List Expr), isEs T G S es xs = true → PA X xs (tEvA X.K fun env m => evA F (gv G) es env m)
  | .nil, X, S, C, hX, xs, h => by
    simp only [isEs] at h
    split at h
    · simp only [evA]
      exact a_nil
    · cases h
  | .cons e es, X, S, C, hX, xs, h => by
    simp only [isEs] at h
    split at h
    · simp only [Bool.and_eq_true] at h
      simp only [evA]
      exact a_cons (okE e C hX _ h.1) (okA es C hX _ h.2) (pl_star (is_pl h.1) _ _)
    · cases h
termination_by es => (sizeOf es, 0)
theorem okJ : ∀ (es : Es) {X : Cx} {S : Sx_} (C : Cok X n T F G) (hX : XOk X S) (xs : List Expr), isEs T G S es xs = true → PJ X xs (tesOf X.K F (gv G) es)
  | .nil, X, S, C, hX, xs, h => by
    simp only [isEs] at h
    split at h
    · exact .nil
    · cases h
  | .cons e es, X, S, C, hX, xs, h => by
    simp only [isEs] at h
    split at h
    · simp only [Bool.and_eq_true] at h
      exact .cons (okE e C hX _ h.1) (okJ es C hX _ h.2)
    · cases h
termination_by es => (sizeOf es, 0)
theorem okI : ∀ (it : It) {X : Cx} {S : Sx_} (C : Cok X n T F G) (hX : XOk X S) (tg x : Expr), isI T G S it x (isTupE tg) = true → PI X tg x (tEvI X.K fun env m => evI F (gv G) it env m) ∧ ∀ v, foldedSetIterable x X.env v = pure v
  | .seq e, X, S, C, hX, tg, x, h => by
    simp only [isI] at h
    simp only [evI]
    exact ⟨i_seq (okE e C hX _ h), fun v => pl_fold (is_pl h) _ v⟩
  | .rng1 e, X, S, C, hX, tg, x, h => by
    simp only [isI] at h
    split at h
    · simp only [Bool.and_eq_true, decide_eq_true_eq] at h
      obtain ⟨⟨e1, g1⟩, h⟩ := h
      subst e1
      simp only [evI]
      exact ⟨i_rng1 (glB_ok hX g1).1 (C.bl _ (by decide)) (okE e C hX _ h) (pl_star (is_pl h) _ _), fun _ => rfl⟩
    · cases h
  | .rng2 a b, X, S, C, hX, tg, x, h => by
    simp only [isI] at h
    split at h
    · simp only [Bool.and_eq_true, decide_eq_true_eq] at h
      obtain ⟨⟨⟨e1, g1⟩, h⟩, h'⟩ := h
      subst e1
      simp only [evI]
      exact ⟨i_rng2 (glB_ok hX g1).1 (C.bl _ (by decide)) (okE a C hX _ h) (okE b C hX _ h') (pl_star (is_pl h) _ _) (pl_star (is_pl h') _ _), fun _ => rfl⟩
    · cases h
  | .zip a b, X, S, C, hX, tg, x, h => by
    simp only [isI] at h
    split at h
    · simp only [Bool.and_eq_true, decide_eq_true_eq] at h
      obtain ⟨⟨⟨⟨e0, e1⟩, g1⟩, h⟩, h'⟩ := h
      subst e1
      simp only [evI]
      cases tg <;> simp only [isTupE, Bool.false_eq_true] at e0
      exact ⟨i_zip (glB_ok hX g1).1 (C.bl _ (by decide)) (okE a C hX _ h) (okE b C hX _ h') (pl_star (is_pl h) _ _) (pl_star (is_pl h') _ _), fun _ => rfl⟩
    · cases h
  | .zipS a b, X, S, C, hX, tg, x, h => by
    simp only [isI] at h
    split at h
    · simp only [Bool.and_eq_true, decide_eq_true_eq] at h
      obtain ⟨⟨⟨⟨⟨e0, e1⟩, e2⟩, g1⟩, h⟩, h'⟩ := h
      subst e1 e2
      simp only [evI]
      cases tg <;> simp only [isTupE, Bool.false_eq_true] at e0
      exact ⟨i_zipS (glB_ok hX g1).1 (C.bl _ (by decide)) (okE a C hX _ h) (okE b C hX _ h') (pl_star (is_pl h) _ _) (pl_star (is_pl h') _ _), fun _ => rfl⟩
    · cases h
termination_by it => (sizeOf it, 0)
end
end
end Pv

namespace Pv
open PySem L2

abbrev RS := Env → M → R
def FlQ (K : PySem.W.Frag) (Z : Addr → Prop) (ph : List Addr) (H : Hp) (E : Ends) (fl : Fl) (env' : Env) (m' : M) : Prop :=
  ∀ ph' H' σ', Sx ph H ph' H' → Wd K Z ph' m' H' → RepE K Z ph' H' σ' env' → match fl with
    | .nx => E.nx σ' H'
    | .bk => E.bk σ' H'
    | .ct => E.ct σ' H'
    | .rt d => ∀ v, RepV K Z ph' H' v d → E.rt v H'
def tEvS (K : PySem.W.Frag) (r : RS) : TS := fun E σ H => ∃ Z ph env m, RepE K Z ph H σ env ∧ Wd K Z ph m H ∧ ∃ fl env' m', r env m = some (fl, env', m') ∧ FlQ K Z ph H E fl env' m'
section
variable {K : PySem.W.Frag} {Z : Addr → Prop} {ph ph1 : List Addr} {H H1 : Hp} {m m' : M} {env env' : Env} {σ : L2.St} {E : Ends} {fl : Fl}
theorem FlQ.after (q : FlQ K Z ph H E fl env' m') (s : Sx ph H ph1 H1) : FlQ K Z ph1 H1 E fl env' m' := fun ph' H' σ' s' w r => q ph' H' σ' (s.trans s') w r
end
section
variable {X : Cx} {x y w : Expr} {pos p : Pos} {ra rb rc : RE} {rs rt : RS}
def rAsg_ (t : Tg) (ra : RE) : RS := fun env m => (ra env m).bind fun p => (bindTg p.2 t p.1 env).map fun e => (.nx, e, p.2)
theorem asg_read {K : PySem.W.Frag} {t : Tg} {ra : RE} (E : Ends) (σ : L2.St) (H : Hp) (h : tEvS K (rAsg_ t ra) E σ H) : tAsg (tEv K ra) (gT K t) E σ H := by
  obtain ⟨Z, ph, env, m, re, wd, fl, env', m', e, q⟩ := h
  obtain ⟨p, h1, e⟩ := Option.bind_eq_some_iff.mp e
  obtain ⟨e1, h2, e⟩ := Option.map_eq_some_iff.mp e
  cases e
  exact ev_of re wd h1 fun ph1 H1 v s1 w1 re1 r1 => ⟨Z, ph1, env, p.2, p.1, _, re1, w1, r1, h2, fun σ' re' _ => q ph1 H1 σ' s1 w1 re'⟩
theorem s_asg {tg : Expr} {t : Tg} (he : PE X x (tEv X.K ra)) (hg : PG X tg (gT X.K t)) (hs : swapsWithSole [tg] x pos.line X.env = pure false) (hw : swappedStores [tg] x X.env = pure none) (h1 : (assignEach [tg] X.env).map (·.2) = [assign tg X.env]) :
    PS X (.Assign [tg] x pos) (tEvS X.K (rAsg_ t ra)) := ps_imp (ps_asg he hg hs hw h1) asg_read
/-- name = a new list that a comprehension makes: the list as a value, as a mutable thing -/
theorem setN_read {K : PySem.W.Frag} {i : Nat} {r : RE} {te : TE} (hn : ∀ σ H Q, tEvN K r σ H Q → te σ H Q) (hr : ∀ env m d m', r env m = some (d, m') → ∃ ds, d = .lst ds) (E : Ends) (σ : L2.St) (H : Hp) (h : tEvS K (rAsg_ (.nm i) r) E σ H) : tAsg te (gName i) E σ H := by
  obtain ⟨Z, ph, env, m, re, wd, fl, env', m', e, q⟩ := h
  obtain ⟨p, h1, e⟩ := Option.bind_eq_some_iff.mp e
  obtain ⟨e1, h2, e⟩ := Option.map_eq_some_iff.mp e
  cases e
  simp only [bindTg] at h2
  cases h2
  obtain ⟨ds, hp⟩ := hr _ _ _ _ (show r env m = some (p.1, p.2) from h1)
  refine hn _ _ _ ⟨Z, ph, env, m, re, wd, ds, p.2, by rw [h1, ← hp], ?_⟩
  refine PV.np wd fun ph' H' u s w' r' => ?_
  refine q ph' H' _ s w' ?_
  rw [hp]
  exact (re.mono s).set r' i
def rBox_ (r : RE) : RE := fun env m => (r env m).bind fun p => match p.1 with | .lst xs => some (.ref p.2.length, p.2 ++ [.lst xs]) | _ => none
theorem setB_read {K : PySem.W.Frag} {i : Nat} {r : RE} {te : TE} (hn : ∀ σ H Q, tEvN K r σ H Q → te σ H Q) (E : Ends) (σ : L2.St) (H : Hp) (h : tEvS K (rAsg_ (.nm i) (rBox_ r)) E σ H) : tAsg te (gName i) E σ H := by
  obtain ⟨Z, ph, env, m, re, wd, fl, env', m', e, q⟩ := h
  obtain ⟨p, h1, e⟩ := Option.bind_eq_some_iff.mp e
  obtain ⟨e1, h2, e⟩ := Option.map_eq_some_iff.mp e
  cases e
  simp only [bindTg] at h2
  cases h2
  obtain ⟨p0, h0, h1⟩ := Option.bind_eq_some_iff.mp h1
  split at h1
  · rename_i ds hp
    cases h1
    refine hn _ _ _ ⟨Z, ph, env, m, re, wd, ds, p0.2, by rw [h0, ← hp], fun ph' H' a vs hn ha hna s w r => ?_⟩
    have s' : Sx ph H (ph' ++ [a]) H' := by
      refine ⟨?_, fun b hb => ?_, s.fr, s.ft, s.old⟩
      · obtain ⟨x, e⟩ := s.ext
        exact ⟨x ++ [a], by rw [e, List.append_assoc]⟩
      · rcases List.mem_append.mp hb with hb | hb
        · exact s.new b hb
        · have e : b = a := by simpa using hb
          subst e
          exact .inr hn
    refine q (ph' ++ [a]) H' _ s' (w.box ha hna r) ((re.mono s').set (.ref ?_) i)
    rw [← w.len]; simp
  · cases h1
def rSetix_ (ro ri ra : RE) : RS := fun env m => (ra env m).bind fun p => (ro env p.2).bind fun q => (ri env q.2).bind fun r => match q.1, r.1 with
  | .ref l, .int k => match r.2[l]? with
    | some (.lst xs) => match ixAt xs.length k with
      | some j => some (.nx, env, r.2.set l (.lst (xs.set j p.1)))
      | none => none
    | none => none
  | _, _ => none
theorem s_setix {o i : Expr} {ro ri : RE} (hpl : plB i = true) (he : PE X x (tEv X.K ra)) (ho : PE X o (tEv X.K ro)) (hi : PE X i (tEv X.K ri)) (hs : swapsWithSole [.Subscript o i p] x pos.line X.env = pure false) : PS X (.Assign [.Subscript o i p] x pos) (tEvS X.K (rSetix_ ro ri ra)) :=
  ps_imp (ps_asg he (pg_sub ho hi set_list (by cases i <;> first | (intro _; rfl) | cases hpl)) hs rfl rfl) fun E σ H ⟨Z, ph, env, m, re, wd, fl, env', m', e, q⟩ => by
    obtain ⟨p, h1, e⟩ := Option.bind_eq_some_iff.mp e
    obtain ⟨p2, h2, e⟩ := Option.bind_eq_some_iff.mp e
    obtain ⟨p3, h3, e⟩ := Option.bind_eq_some_iff.mp e
    split at e
    · rename_i l k hl hk
      split at e
      · rename_i xs hx
        split at e
        · rename_i j hj
          cases e
          refine ev_of re wd h1 fun ph1 H1 v s1 w1 re1 r1 => ev_of re1 w1 h2 fun ph2 H2 u s2 w2 re2 r2 => ev_of re2 w2 h3 fun ph3 H3 z s3 w3 re3 r3 => ?_
          have r2 := r2.mono s3
          rw [hl] at r2
          rw [hk] at r3
          cases r3
          cases r2 with
          | @ref a l ha =>
            obtain ⟨vs, g1, g2⟩ := w3.at hx ha
            refine ⟨a, vs, k, j, rfl, rfl, g1, by rw [g2.len]; exact hj, ?_⟩
            have sw : Sx ph3 H3 ph3 (upd H3 a (.lst (vs.set j v))) := Sx.write w3 ha
            exact q ph3 _ σ (((s1.trans s2).trans s3).trans sw) (w3.write ha (g2.set ((r1.mono s2).mono s3) j)) (re3.mono sw)
        · cases e
      · cases e
    · cases e
def rAug_ (i : Nat) (op : BOp) (ra : RE) : RS := fun env m => match env[i]? with
  | some (some (.int a)) => (ra env m).bind fun p => match p.1 with
    | .int b => match op with
      | .add => some (.nx, env.set i (some (.int (a + b))), p.2)
      | .sub => some (.nx, env.set i (some (.int (a - b))), p.2)
      | _ => none
    | _ => none
  | _ => none
theorem s_aug {i : Nat} {s : Str} {op : BOp} {o : Operator} (hb : bopB op o = true) (hN : X.N.Nodup) (hi : X.N[i]? = some s) (hx : L2.Loc X.env.scope s) (hf : X.fn s = true ∨ X.env.scope.names.lookup s = some .local) (he : PE X x (tEv X.K ra)) :
    PS X (.AugAssign (.Name s p) o x pos) (tEvS X.K (rAug_ i op ra)) := by
  cases op <;> cases o <;> first | (exact absurd hb (by decide)) | skip
  · exact ps_imp (ps_aug hN hi hx he ip_add hf) fun E σ H ⟨Z, ph, env, m, re, wd, fl, env', m', e, q⟩ => by
      simp only [rAug_] at e
      split at e
      · rename_i a ha
        obtain ⟨p, h1, e⟩ := Option.bind_eq_some_iff.mp e
        split at e
        · rename_i b hb
          cases e
          obtain ⟨v, h2, r2⟩ := re.at_ i _ ha
          cases r2
          refine ⟨_, h2, ev_of re wd h1 fun ph1 H1 v s1 w1 re1 r1 => ?_⟩
          rw [hb] at r1
          cases r1
          exact ⟨a, b, rfl, rfl, q ph1 H1 _ s1 w1 (re1.set (.int _) i)⟩
        · cases e
      · cases e
  · exact ps_imp (ps_aug hN hi hx he ip_sub hf) fun E σ H ⟨Z, ph, env, m, re, wd, fl, env', m', e, q⟩ => by
      simp only [rAug_] at e
      split at e
      · rename_i a ha
        obtain ⟨p, h1, e⟩ := Option.bind_eq_some_iff.mp e
        split at e
        · rename_i b hb
          cases e
          obtain ⟨v, h2, r2⟩ := re.at_ i _ ha
          cases r2
          refine ⟨_, h2, ev_of re wd h1 fun ph1 H1 v s1 w1 re1 r1 => ?_⟩
          rw [hb] at r1
          cases r1
          exact ⟨a, b, rfl, rfl, q ph1 H1 _ s1 w1 (re1.set (.int _) i)⟩
        · cases e
      · cases e
  all_goals exact ⟨fun pins s σ H D I ⟨Z, ph, env, m, re, wd, fl, env', m', e, q⟩ => by
      exfalso
      simp only [rAug_] at e
      split at e
      · obtain ⟨p, h1, e⟩ := Option.bind_eq_some_iff.mp e
        split at e <;> cases e
      · cases e⟩
theorem s_ex (he : PE X x (tEv X.K ra)) (hs : swapsWith x none pos.line X.env = pure false) : PS X (.Expr x pos) (tEvS X.K fun env m => (ra env m).map fun p => (.nx, env, p.2)) :=
  ps_imp (ps_expr he hs) fun E σ H ⟨Z, ph, env, m, re, wd, fl, env', m', e, q⟩ => by
    obtain ⟨p, h1, e⟩ := Option.map_eq_some_iff.mp e
    cases e
    exact ev_of re wd h1 fun ph1 H1 v s1 w1 re1 r1 => q ph1 H1 σ s1 w1 re1
theorem s_ret (he : PE X x (tEv X.K ra)) : PS X (.Return (some x) pos) (tEvS X.K fun env m => (ra env m).map fun p => (.rt p.1, env, p.2)) :=
  ps_imp (ps_ret he) fun E σ H ⟨Z, ph, env, m, re, wd, fl, env', m', e, q⟩ => by
    obtain ⟨p, h1, e⟩ := Option.map_eq_some_iff.mp e
    cases e
    exact ev_of re wd h1 fun ph1 H1 v s1 w1 re1 r1 => q ph1 H1 σ s1 w1 re1 v r1
theorem s_brk : PS X (.Break pos) (tEvS X.K fun env m => some (.bk, env, m)) :=
  ps_imp ps_break fun E σ H ⟨Z, ph, env, m, re, wd, fl, env', m', e, q⟩ => by cases e; exact q ph H σ Sx.refl wd re
theorem s_cont : PS X (.Continue pos) (tEvS X.K fun env m => some (.ct, env, m)) :=
  ps_imp ps_continue fun E σ H ⟨Z, ph, env, m, re, wd, fl, env', m', e, q⟩ => by cases e; exact q ph H σ Sx.refl wd re
def rIfS_ (rc : RE) (rs rt : RS) : RS := fun env m => (rc env m).bind fun p => match p.1 with
  | .bl true => rs env p.2
  | .bl false => rt env p.2
  | _ => none
theorem s_if {a b : List Stmt} (hc : PT X x (tEvT X.K rc)) (ha : PSs X a (tEvS X.K rs)) (hb : PSs X b (tEvS X.K rt)) : PS X (.If x a b pos) (tEvS X.K (rIfS_ rc rs rt)) :=
  ps_imp (ps_if hc ha hb) fun E σ H ⟨Z, ph, env, m, re, wd, fl, env', m', e, q⟩ => by
    obtain ⟨p, h1, e⟩ := Option.bind_eq_some_iff.mp e
    split at e
    · rename_i hp
      exact evt_of re wd (b := true) (m1 := p.2) (by rw [h1, ← hp]) fun ph1 H1 s1 w1 re1 => iteT ⟨Z, ph1, env, p.2, re1, w1, fl, env', m', e, q.after s1⟩
    · rename_i hp
      exact evt_of re wd (b := false) (m1 := p.2) (by rw [h1, ← hp]) fun ph1 H1 s1 w1 re1 => iteF ⟨Z, ph1, env, p.2, re1, w1, fl, env', m', e, q.after s1⟩
    · cases e
theorem ss_nil : PSs X [] (tEvS X.K fun env m => some (.nx, env, m)) := pss_imp pss_nil fun E σ H ⟨Z, ph, env, m, re, wd, fl, env', m', e, q⟩ => by cases e; exact q ph H σ Sx.refl wd re
def rSeqS_ (rs rt : RS) : RS := fun env m => (rs env m).bind fun r => match r.1 with
  | .nx => rt r.2.1 r.2.2
  | _ => some r
theorem ss_cons {st : Stmt} {rest : List Stmt} (h : PS X st (tEvS X.K rs)) (h2 : PSs X rest (tEvS X.K rt)) : PSs X (st :: rest) (tEvS X.K (rSeqS_ rs rt)) :=
  pss_imp (pss_cons h h2) fun E σ H ⟨Z, ph, env, m, re, wd, fl, env', m', e, q⟩ => by
    obtain ⟨⟨fl1, env1, m1⟩, h1, e⟩ := Option.bind_eq_some_iff.mp e
    refine ⟨Z, ph, env, m, re, wd, fl1, env1, m1, h1, fun ph' H' σ' s w re' => ?_⟩
    cases fl1 with
    | nx => exact ⟨Z, ph', env1, m1, re', w, fl, env', m', e, q.after s⟩
    | rt d => cases e; exact q ph' H' σ' s w re'
    | bk => cases e; exact q ph' H' σ' s w re'
    | ct => cases e; exact q ph' H' σ' s w re'

/-! ### loops -/
variable {ri : RA} {t : Tg} {body : List Stmt} {tg it : Expr}
theorem for_run {K : PySem.W.Frag} {σ : L2.St} {H1 : Hp} {E : Ends} {Z : Addr → Prop} {ph1 : List Addr} {env env' : Env} {m m' : M} {items : List D} {J : L2.It} {fl : Fl} {t : Tg} {rs : RS}
    (re : RepE K Z ph1 H1 σ env) (wd : Wd K Z ph1 m H1) (yd : Ydl K Z ph1 H1 J items) (e : forL t rs items env m = some (fl, env', m')) (q : FlQ K Z ph1 H1 E fl env' m') :
    ∃ W : Nat → Nat → L2.St → Hp → Prop, (∃ k, W 0 k σ H1) ∧ ∀ i k σ H, W i k σ H →
      (J.stop i H ∧ E.nx σ H) ∨ (J.go i H ∧ ∃ N : L2.St → Hp → Prop, (∀ σ' H', N σ' H' → ∃ k', k' < k ∧ W (i + 1) k' σ' H') ∧ ∀ x H', J.yld i H x H' → gT K t x σ H' fun σ2 H2 => tEvS K rs { E with nx := N, ct := N, bk := E.nx } σ2 H2) := by
  refine ⟨fun i k σ H => k = items.length - i ∧ i ≤ items.length ∧ ∃ ph2 m2 env2, Sx ph1 H1 ph2 H ∧ Wd K Z ph2 m2 H ∧ RepE K Z ph2 H σ env2 ∧ forL t rs (items.drop i) env2 m2 = some (fl, env', m'), ⟨items.length, by simp, Nat.zero_le _, ph1, m, env, Sx.refl, wd, re, by simpa using e⟩, ?_⟩
  rintro i k σ H ⟨rfl, hi, ph2, m2, env2, s2, w2, re2, hg⟩
  by_cases hlt : i < items.length
  · refine .inr ⟨yd.go i ph2 H hlt s2, fun σ H => i + 1 ≤ items.length ∧ ∃ ph2 m2 env2, Sx ph1 H1 ph2 H ∧ Wd K Z ph2 m2 H ∧ RepE K Z ph2 H σ env2 ∧ forL t rs (items.drop (i + 1)) env2 m2 = some (fl, env', m'), fun σ' H' h => ⟨items.length - (i + 1), by omega, rfl, h⟩, fun x H' hy => ?_⟩
    obtain ⟨hg', d, hd, rx⟩ := yd.yld Z i ph2 H x H' (fun a ha => .inl ha) hlt s2 hy
    have s3 : Sx ph2 H ph2 H' := Sx.grow (x := x) hg'
    have w3 : Wd K Z ph2 m2 H' := w2.grow hg'
    have hdr : items.drop i = d :: items.drop (i + 1) := by
      have e2 : items[i] = d := by rw [List.getElem?_eq_getElem hlt] at hd; exact Option.some.inj hd
      rw [List.drop_eq_getElem_cons hlt, e2]
    rw [hdr] at hg
    simp only [forL] at hg
    obtain ⟨e1, b1, hg⟩ := Option.bind_eq_some_iff.mp hg
    obtain ⟨⟨fl1, env1, m1⟩, b2, hg⟩ := Option.bind_eq_some_iff.mp hg
    refine ⟨Z, ph2, env2, m2, d, e1, re2.mono s3, w3, rx, b1, fun σ' re' _ => ⟨Z, ph2, e1, m2, re', w3, fl1, env1, m1, b2, fun ph4 H4 σ4 s4 w4 re4 => ?_⟩⟩
    cases fl1 with
    | nx => exact ⟨hlt, ph4, m1, env1, (s2.trans s3).trans s4, w4, re4, hg⟩
    | ct => exact ⟨hlt, ph4, m1, env1, (s2.trans s3).trans s4, w4, re4, hg⟩
    | bk => cases hg; exact q ph4 H4 σ4 ((s2.trans s3).trans s4) w4 re4
    | rt d => cases hg; exact q ph4 H4 σ4 ((s2.trans s3).trans s4) w4 re4
  · have ei : i = items.length := by omega
    subst ei
    rw [List.drop_length] at hg
    simp only [forL] at hg
    cases hg
    exact .inl ⟨yd.stop ph2 H s2, q ph2 H σ s2 w2 re2⟩
theorem s_for (hp : PassesOwn (model X.prog X.w) X.A X.env X.xe) (hc : X.calm = true) (hi : PI X tg it (tEvI X.K ri)) (hg : PG X tg (gT X.K t)) (hb : PSs X body (tEvS X.K rs)) (hs : ∀ v, foldedSetIterable it X.env v = pure v) :
    PS X (.For tg it body [] pos) (tEvS X.K fun env m => (ri env m).bind fun p => forL t rs p.1 env p.2) :=
  ps_imp (ps_for hp hc hi hg hb hs) fun E σ H ⟨Z, ph, env, m, re, wd, fl, env', m', e, q⟩ => by
    obtain ⟨p, h1, e⟩ := Option.bind_eq_some_iff.mp e
    exact ⟨Z, ph, env, m, re, wd, p.1, p.2, h1, fun ph1 H1 J s1 w1 yd => for_run (re.mono s1) w1 yd e (q.after s1)⟩
theorem s_while (hp : PassesOwn (model X.prog X.w) X.A X.env X.xe) (hc : PT X x (tEvT X.K rc)) (hb : PSs X body (tEvS X.K rs)) : PS X (.While x body [] pos) (tEvS X.K fun env m => whileL rc rs turns env m) :=
  ps_imp (ps_while hp hc hb) fun E σ H ⟨Z, ph, env, m, re, wd, fl, env', m', e, q⟩ => by
    refine ⟨fun k σ2 H2 => ∃ ph2 m2 env2, Sx ph H ph2 H2 ∧ Wd X.K Z ph2 m2 H2 ∧ RepE X.K Z ph2 H2 σ2 env2 ∧ whileL rc rs k env2 m2 = some (fl, env', m'), ⟨turns, ph, m, env, Sx.refl, wd, re, e⟩, ?_⟩
    rintro k σ2 H2 ⟨ph2, m2, env2, s2, w2, re2, hg⟩
    cases k with
    | zero => simp [whileL] at hg
    | succ k =>
      simp only [whileL] at hg
      obtain ⟨c, h1, hg⟩ := Option.bind_eq_some_iff.mp hg
      split at hg
      · rename_i hp
        obtain ⟨⟨fl1, env1, m1⟩, b2, hg⟩ := Option.bind_eq_some_iff.mp hg
        refine evt_of re2 w2 (b := true) (m1 := c.2) (by rw [h1, ← hp]) fun ph3 H3 s3 w3 re3 => iteT ?_
        refine ⟨fun σ' H' => ∃ ph2 m2 env2, Sx ph H ph2 H' ∧ Wd X.K Z ph2 m2 H' ∧ RepE X.K Z ph2 H' σ' env2 ∧ whileL rc rs k env2 m2 = some (fl, env', m'), fun σ' H' h => ⟨k, Nat.lt_succ_self k, h⟩, Z, ph3, env2, c.2, re3, w3, fl1, env1, m1, b2, fun ph4 H4 σ4 s4 w4 re4 => ?_⟩
        cases fl1 with
        | nx => exact ⟨ph4, m1, env1, (s2.trans s3).trans s4, w4, re4, hg⟩
        | ct => exact ⟨ph4, m1, env1, (s2.trans s3).trans s4, w4, re4, hg⟩
        | bk => cases hg; exact q ph4 H4 σ4 ((s2.trans s3).trans s4) w4 re4
        | rt d => cases hg; exact q ph4 H4 σ4 ((s2.trans s3).trans s4) w4 re4
      · rename_i hp
        cases hg
        exact evt_of re2 w2 (b := false) (m1 := c.2) (by rw [h1, ← hp]) fun ph3 H3 s3 w3 re3 => iteF (q ph3 H3 σ2 (s2.trans s3) w3 re3)
      · cases hg
end
end Pv

namespace Pv
open PySem L2

/-! ## the check of statements -/
def isLC : Expr → Bool
  | .ListComp .. => true
  | _ => false
/-- whether a store is done within the comprehension's frame -/
def swV (S : Sx_) (tg x : Expr) : Bool := match x with
  | .ListComp _ _ scope vp => match tg with
    | .Name t p => decide (S.sc.names.lookup t = some .local) && (p.line == vp.line) && !(scope.names.any fun (n, k) => n == t && (k == .local || k == .cell))
    | _ => false
  | _ => false
section
variable (T : List FnD) (G : List (Str × D))
mutual
def isS (c_ : Sx_) : S → Stmt → Bool
  | .asg t e, st => match st with
    | .Assign [tg] x _ => isTg c_ t tg && isE T G c_ e x && !(isTupE tg && isTupE x)
    | _ => false
  | .setix o i e, st => match st with
    | .Assign [.Subscript xo xi _] x _ => isE T G c_ o xo && isE T G c_ i xi && isE T G c_ e x
    | _ => false
  | .aug i op e, st => match st with
    | .AugAssign (.Name s _) o x _ => bopB op o && decide (c_.N[i]? = some s) && locB c_ s && isE T G c_ e x
    | _ => false
  | .ex e, st => match st with
    | .Expr x _ => isE T G c_ e x && !isLC x
    | _ => false
  | .ife c a b, st => match st with
    | .If x ys zs _ => isE T G c_ c x && isB c_ a ys && isB c_ b zs
    | _ => false
  | .for_ t it b, st => match st with
    | .For tg x ys [] _ => isTg c_ t tg && isI T G c_ it x (isTupE tg) && isB c_ b ys
    | _ => false
  | .while_ c b, st => match st with
    | .While x ys [] _ => isE T G c_ c x && isB c_ b ys
    | _ => false
  | .ret e, st => match st with
    | .Return (some x) _ => isE T G c_ e x
    | _ => false
  | .brk, st => match st with
    | .Break _ => true
    | _ => false
  | .cont, st => match st with
    | .Continue _ => true
    | _ => false
def isB (c_ : Sx_) : Ss → List Stmt → Bool
  | .nil, sts => match sts with
    | [] => true
    | _ => false
  | .cons s ss, sts => match sts with
    | st :: r => isS c_ s st && isB c_ ss r
    | _ => false
end
end
theorem sw_eq {X : Cx} {S : Sx_} (hX : XOk X S) (hk : S.sc.kind = .function) {x : Expr} (h : plB x = true) (tg : Expr) (l : Nat) : swapsWith x (some tg) l X.env = pure (swV S tg x) := by
  have hb : X.env.blockKind = .function := by unfold Env.blockKind; rw [hX.sc, hk]; rfl
  cases x <;> first | rfl | (cases h; done) | skip
  rename_i z gs scope vp
  cases tg <;> first | rfl | skip
  rename_i t p
  have ky : X.env.kindOf t = S.sc.names.lookup t := by unfold Env.kindOf; rw [hX.sc]
  unfold swapsWith swV
  simp only [hb, ky, Expr.pos]
  have e : (List.lookup t S.sc.names == some NameKind.local) = decide (List.lookup t S.sc.names = some NameKind.local) := by rw [Bool.eq_iff_iff]; simp
  rw [e]
  rfl
theorem sw_none {X : Cx} {x : Expr} (h : plB x = true) (h' : isLC x = false) (l : Nat) : swapsWith x none l X.env = pure false := by
  cases x <;> first | rfl | (cases h; done) | (cases h'; done)
theorem stores_none {X : Cx} {tg x : Expr} (h : (isTupE tg && isTupE x) = false) {S : Sx_} {t : Tg} (ht : isTg S t tg = true) : swappedStores [tg] x X.env = pure none := by
  cases tg <;> first | rfl | (cases t <;> simp [isTg] at ht; done) | skip
  cases x <;> first | rfl | (cases h; done)
def isCp : E → Bool
  | .comp .. => true
  | .compIf .. => true
  | _ => false
theorem isCp_of {T : List FnD} {G : List (Str × D)} {S : Sx_} {a : E} {z : Expr} {gs : List Comprehension} {sc : Scope} {vp : Pos} (h1 : isNew a = true) (h : isE T G S a (.ListComp z gs sc vp) = true) : isCp a = true := by
  cases a <;> first | rfl | (exfalso; simp [isNew] at h1; done) | (exfalso; simp [isE] at h; done)
section
variable {n : Nat} {T : List FnD} {F : Fn} {G : List (Str × D)}
/-- name = [..] in the comprehension's frame -/
theorem okLc {X : Cx} {S : Sx_} (C : Cok X n T F G) (hX : XOk X S) (hk : S.sc.kind = .function) (e : E) (hn : isCp e = true) {x : Expr} (h : isE T G S e x = true) {i : Nat} {y : Str} {py pos : Pos} (hi : S.N[i]? = some y) (hs : swV S (.Name y py) x = true) :
    ∃ te, PS X (.Assign [.Name y py] x pos) (tAsg te (gName i)) ∧ ∀ σ H Q, tEvN X.K (fun env m => evE F (gv G) e env m) σ H Q → te σ H Q := by
  have hsw := fun l => sw_eq hX hk (is_pl h) (.Name y py) l
  rw [hs] at hsw
  have hy : X.N[i]? = some y := by rw [hX.n]; exact hi
  have hl : ∀ {z gs sc vp}, x = .ListComp z gs sc vp → X.env.scope.names.lookup y = some .local := fun ex => by
    subst ex
    simp only [swV, Bool.and_eq_true, decide_eq_true_eq] at hs
    rw [hX.sc]
    exact hs.1.1
  cases e <;> first | (cases hn; done) | skip
  · rename_i own t it e
    simp only [isE] at h
    split at h
    · rename_i z tg it' a scope vp
      simp only [Bool.and_eq_true, decide_eq_true_eq] at h
      obtain ⟨⟨⟨⟨⟨e1, h2⟩, h3⟩, h4⟩, h5⟩, h6⟩ := h
      subst e1
      have ok : BlkOk X.N X.env.scope scope own := by rw [hX.n, hX.sc]; exact blkOk_by h2
      have hI := okI it C hX tg it' h4
      refine ⟨_, s_setLc hX.calm hX.nd hy (hl rfl) (hsw _) hI.1 ok (fun s H c cl fp => okTg (hX.blk s H scope c cl fp) t tg h5) (fun s H c cl fp => okE e (C.blk s H scope _ fp) (hX.blk s H scope c cl fp) z h6) hI.2, fun σ H Q hq => ?_⟩
      simp only [evE] at hq
      exact comp_read h3 σ H Q hq
    · cases h
  · rename_i own t it c e
    simp only [isE] at h
    split at h
    · rename_i z tg it' y' a scope vp
      simp only [Bool.and_eq_true, decide_eq_true_eq] at h
      obtain ⟨⟨⟨⟨⟨⟨e1, h2⟩, h3⟩, h4⟩, h5⟩, h7⟩, h6⟩ := h
      subst e1
      have ok : BlkOk X.N X.env.scope scope own := by rw [hX.n, hX.sc]; exact blkOk_by h2
      have hI := okI it C hX tg it' h4
      refine ⟨_, s_setLcI hX.calm hX.nd hy (hl rfl) (hsw _) hI.1 ok (fun s H c cl fp => okTg (hX.blk s H scope c cl fp) t tg h5) (fun s H c' cl fp => okT c (C.blk s H scope _ fp) (hX.blk s H scope c' cl fp) y' h7) (fun s H c cl fp => okE e (C.blk s H scope _ fp) (hX.blk s H scope c cl fp) z h6) hI.2, fun σ H Q hq => ?_⟩
      simp only [evE] at hq
      exact compI_read h3 σ H Q hq
    · cases h
theorem okAsg {X : Cx} {S : Sx_} (C : Cok X n T F G) (hX : XOk X S) (hk : S.sc.kind = .function) (t : Tg) (e : E) {tg x : Expr} {pos : Pos} (h1 : isTg S t tg = true) (h2 : isE T G S e x = true) (h3 : (isTupE tg && isTupE x) = false) :
    PS X (.Assign [tg] x pos) (tEvS X.K fun env m => evS F (gv G) (.asg t e) env m) := by
  simp only [evS]
  by_cases hs : swV S tg x = true
  · have hx : ∃ z gs sc vp, x = .ListComp z gs sc vp := by
      cases x <;> first | exact ⟨_, _, _, _, rfl⟩ | (simp [swV] at hs; done)
    obtain ⟨z, gs, sc, vp, rfl⟩ := hx
    have htg : ∃ y py, tg = .Name y py := by
      cases tg <;> first | exact ⟨_, _, rfl⟩ | (simp [swV] at hs; done)
    obtain ⟨y, py, rfl⟩ := htg
    cases t with
    | tp ts => simp [isTg] at h1
    | up ts => simp [isTg] at h1
    | nm i =>
      simp only [isTg, Bool.and_eq_true, decide_eq_true_eq] at h1
      cases e with
      | comp own t' it e =>
        obtain ⟨te, hp, hq⟩ := okLc C hX hk (.comp own t' it e) rfl h2 (py := py) (pos := pos) h1.1 hs
        exact ps_imp hp (setN_read hq fun env m d m' e => by simp only [evE] at e; exact rComp_lst e)
      | compIf own t' it c e =>
        obtain ⟨te, hp, hq⟩ := okLc C hX hk (.compIf own t' it c e) rfl h2 (py := py) (pos := pos) h1.1 hs
        exact ps_imp hp (setN_read hq fun env m d m' e => by simp only [evE] at e; exact rCompI_lst e)
      | box a =>
        simp only [isE, Bool.and_eq_true] at h2
        have ha : isCp a = true := isCp_of h2.1 h2.2
        obtain ⟨te, hp, hq⟩ := okLc C hX hk a ha h2.2 (py := py) (pos := pos) h1.1 hs
        refine ps_imp hp fun E σ H h => setB_read hq E σ H ?_
        simp only [evE] at h
        exact h
      | _ => exact absurd h2 (by simp [isE])
  · have hs : swV S tg x = false := by simpa using hs
    exact s_asg (okE e C hX x h2) (okTg hX t tg h1) (by rw [← hs]; exact sw_eq hX hk (is_pl h2) tg _) (stores_none h3 h1) (by rw [isTg_each h1]; rfl)
mutual
theorem okS {X : Cx} {S_ : Sx_} (C : Cok X n T F G) (hX : XOk X S_) (hk : S_.sc.kind = .function) (hp : PassesOwn (model X.prog X.w) X.A X.env X.xe) : ∀ (s : S) (st : Stmt), isS T G S_ s st = true → PS X st (tEvS X.K fun env m => evS F (gv G) s env m)
  | .asg t e, st, h => by
    simp only [isS] at h
    split at h
    · simp only [Bool.and_eq_true, Bool.not_eq_true'] at h
      exact okAsg C hX hk t e h.1.1 h.1.2 h.2
    · cases h
  | .setix o i e, st, h => by
    simp only [isS] at h
    split at h
    · simp only [Bool.and_eq_true] at h
      simp only [evS]
      refine s_setix (is_pl h.1.2) (okE e C hX _ h.2) (okE o C hX _ h.1.1) (okE i C hX _ h.1.2) ?_
      have hq := is_pl h.2
      simp only [swapsWithSole]
      rw [sw_eq hX hk hq]
      unfold swV
      split <;> rfl
    · cases h
  | .aug i op e, st, h => by
    simp only [isS] at h
    split at h
    · simp only [Bool.and_eq_true, decide_eq_true_eq] at h
      obtain ⟨h1, h2⟩ := locB_ok hX h.1.2
      simp only [evS]
      exact s_aug h.1.1.1 hX.nd (by rw [hX.n]; exact h.1.1.2) h1 h2 (okE e C hX _ h.2)
    · cases h
  | .ex e, st, h => by
    simp only [isS] at h
    split at h
    · simp only [Bool.and_eq_true, Bool.not_eq_true'] at h
      simp only [evS]
      exact s_ex (okE e C hX _ h.1) (sw_none (is_pl h.1) h.2 _)
    · cases h
  | .ife c a b, st, h => by
    simp only [isS] at h
    split at h
    · simp only [Bool.and_eq_true] at h
      simp only [evS]
      exact s_if (okT c C hX _ h.1.1) (okB C hX hk hp a _ h.1.2) (okB C hX hk hp b _ h.2)
    · cases h
  | .for_ t it b, st, h => by
    simp only [isS] at h
    split at h
    · simp only [Bool.and_eq_true] at h
      simp only [evS]
      have hI := okI it C hX _ _ h.1.2
      exact s_for hp hX.calm hI.1 (okTg hX t _ h.1.1) (okB C hX hk hp b _ h.2) hI.2
    · cases h
  | .while_ c b, st, h => by
    simp only [isS] at h
    split at h
    · simp only [Bool.and_eq_true] at h
      simp only [evS]
      exact s_while hp (okT c C hX _ h.1) (okB C hX hk hp b _ h.2)
    · cases h
  | .ret e, st, h => by
    simp only [isS] at h
    split at h
    · simp only [evS]
      exact s_ret (okE e C hX _ h)
    · cases h
  | .brk, st, h => by
    simp only [isS] at h
    split at h
    · simp only [evS]
      exact s_brk
    · cases h
  | .cont, st, h => by
    simp only [isS] at h
    split at h
    · simp only [evS]
      exact s_cont
    · cases h
theorem okB {X : Cx} {S_ : Sx_} (C : Cok X n T F G) (hX : XOk X S_) (hk : S_.sc.kind = .function) (hp : PassesOwn (model X.prog X.w) X.A X.env X.xe) : ∀ (s : Ss) (st : List Stmt), isB T G S_ s st = true → PSs X st (tEvS X.K fun env m => evB F (gv G) s env m)
  | .nil, st, h => by
    simp only [isB] at h
    split at h
    · simp only [evB]
      exact ss_nil
    · cases h
  | .cons s ss, st, h => by
    simp only [isB] at h
    split at h
    · simp only [Bool.and_eq_true] at h
      simp only [evB]
      exact ss_cons (okS C hX hk hp s _ h.1) (okB C hX hk hp ss _ h.2)
    · cases h
end
end

/-! ## defs -/
theorem start_rep {K : PySem.W.Frag} {Z : Addr → Prop} {ph : List Addr} {H : Hp} {vs : List V} {ds : List D} (N : List Str) (r : RepVs K Z ph H vs ds) : RepE K Z ph H (L2.start N vs) (startE N.length ds) := by
  unfold L2.start startE
  rw [r.len]
  refine ⟨by simp [r.len], fun i d h => ?_⟩
  by_cases hi : i < ds.length
  · rw [List.getElem?_append_left (by simpa using hi), List.getElem?_map] at h
    obtain ⟨d', h1, h2⟩ := Option.map_eq_some_iff.mp h
    cases h2
    obtain ⟨v, h3, r3⟩ := r.get h1
    exact ⟨v, by rw [List.getElem?_append_left (by rw [List.length_map, r.len]; exact hi), List.getElem?_map, h3]; rfl, r3⟩
  · rw [List.getElem?_append_right (by simpa using hi)] at h
    have := List.mem_of_getElem? h
    simp at this
/-- what is known of the defs, at a level -/
structure Lev (P : Program) (w : World) (K : PySem.W.Frag) (mg : Str → Option Value) (base : Heap) (n : Nat) (T : List FnD) (F : Fn) : Prop where
  fn : ∀ (i : Nat) (fd : FnD), T[i]? = some fd → ∃ f fdat, FnK P w K mg base n f fdat fd.ps (spF K fd.ps.length (F i)) ∧ Binds K fdat fd.ps [] ∧ PySem.W.keepIn K (.ref f) = true ∧ mg fd.nm = some (.ref f) ∧ (∀ ds m r, F i ds m = some r → ds.length = fd.ps.length)
structure Glo (K : PySem.W.Frag) (mg : Str → Option Value) (G : List (Str × D)) : Prop where
  bl : ∀ x ∈ bnames, mg x = none
  gl : ∀ (i : Nat) (x : Str) (d : D), G[i]? = some (x, d) → ∃ v u, mg x = some u ∧ RelV v u ∧ ∀ Z ph H, RepV K Z ph H v d
section
variable {P : Program} {w : World} {K : PySem.W.Frag} {mg : Str → Option Value} {base : Heap} {n : Nat} {T : List FnD} {F : Fn} {G : List (Str × D)}
theorem runBody_len {fd : FnD} {ds : List D} {m : M} {r : D × M} {G : List D} (h : runBody F G fd ds m = some r) : ds.length = fd.ps.length := by
  unfold runBody at h
  split at h
  · assumption
  · cases h
theorem fn_ok (L : Lev P w K mg base n T F) (Gk : Glo K mg G) {fd : FnD} {st : Stmt} {f : Addr} {fdat : FuncData} (Fu : Fun K fd.nm fd.nm st f fdat) (Sc : FnScope fd.ns fd.ps (defScope st)) (is : isB T G ⟨fd.ns, defScope st, fun _ => true⟩ fd.body (defBody st) = true) :
    FnK P w K mg base (n + 1) f fdat fd.ps (spF K fd.ps.length (runBody F (gv G) fd)) := by
  refine k_fn Fu Sc (fun vs H Q E h => h.1) (fun cdv A outer s H vs Q E hr h => ?_)
  refine ⟨_, okB (n := n) (F := F) ⟨L.fn, hr, Gk.bl, Gk.gl⟩ ⟨rfl, rfl, rfl, rfl, Sc.nd, hr.units⟩ Sc.kind PassesOwn.never fd.body (defBody st) is, ?_⟩
  obtain ⟨hl, Z, ph, m, ds, r, wd, d, m', e, q⟩ := h
  unfold runBody at e
  rw [if_pos (runBody_len (F := F) (G := gv G) (m := m) (r := (d, m')) e)] at e
  obtain ⟨⟨fl, env', m1⟩, h1, e⟩ := Option.bind_eq_some_iff.mp e
  refine ⟨Z, ph, startE fd.ns.length ds, m, start_rep fd.ns r, wd, fl, env', m1, h1, fun ph' H' σ' s w r => ?_⟩
  cases fl with
  | nx => cases e; exact q ph' H' .non s w .non
  | rt d => cases e; exact fun v rv => q ph' H' v s w rv
  | bk => cases e
  | ct => cases e
/-- the defs of the table, as they stand behind the top -/
structure Tab (K : PySem.W.Frag) (mg : Str → Option Value) (T : List FnD) (G : List (Str × D)) : Prop where
  fn : ∀ (i : Nat) (fd : FnD), T[i]? = some fd → ∃ f fdat st, Fun K fd.nm fd.nm st f fdat ∧ FnScope fd.ns fd.ps (defScope st) ∧ isB T G ⟨fd.ns, defScope st, fun _ => true⟩ fd.body (defBody st) = true ∧ (∀ us : List Value, us.length = fd.ps.length → bindArgs fdat ⟨us, []⟩ = pure (fd.ps.zip us)) ∧ mg fd.nm = some (.ref f)
theorem run_len {T : List FnD} {G : List D} : ∀ {n i : Nat} {fd : FnD} {ds : List D} {m : M} {r : D × M}, T[i]? = some fd → run T G n i ds m = some r → ds.length = fd.ps.length
  | 0, _, _, _, _, _, _, h => by simp [run] at h
  | n + 1, i, fd, ds, m, r, hi, h => by
    simp only [run, hi] at h
    exact runBody_len h
theorem lev (Tb : Tab K mg T G) (Gk : Glo K mg G) : ∀ n, Lev P w K mg base n T (run T (gv G) n)
  | 0 => ⟨fun i fd h => by
      obtain ⟨f, fdat, st, Fu, Sc, is, bi, mgf⟩ := Tb.fn i fd h
      refine ⟨f, fdat, ⟨fun vs H Q E h => h.1, fun A outer s H args us vs Q E _ _ _ _ h => ?_⟩, .all bi, Fu.kp, mgf, fun ds m r h' => run_len h h'⟩
      obtain ⟨_, Z, ph, m, ds, _, _, d, m', e, _⟩ := h
      simp [run] at e⟩
  | n + 1 => ⟨fun i fd h => by
      obtain ⟨f, fdat, st, Fu, Sc, is, bi, mgf⟩ := Tb.fn i fd h
      have e : run T (gv G) (n + 1) i = runBody (run T (gv G) n) (gv G) fd := by funext ds m; simp only [run, h]
      rw [e]
      exact ⟨f, fdat, fn_ok (lev Tb Gk n) Gk Fu Sc is, .all bi, Fu.kp, mgf, fun ds m r h' => runBody_len h'⟩⟩
end
/-- what law(script) promises -/
def spLaw (K : PySem.W.Frag) : Sp := fun vs H Q _ => ∃ (a : Addr) (ns : List Int), vs = [.ref a] ∧ SqL K H a (ns.map V.int) ∧ Only H ∧ ns.length ≤ 63 ∧ ∀ H', Q (.bl true) H'
theorem law_sp {K : PySem.W.Frag} {f : List D → M → Option (D × M)} (h : ∀ ns : List Int, ns.length ≤ 63 → ∃ m', f [.frz (ns.map .int)] [] = some (.bl true, m')) (vs : List V) (H : Hp) (Q : VK) (E : XK) (q : spLaw K vs H Q E) : spF K 1 f vs H Q E := by
  obtain ⟨a, ns, rfl, hs, ho, hl, q⟩ := q
  obtain ⟨m', e⟩ := h ns hl
  have hf : FrzL K H a (ns.map V.int) := by
    rcases hs with (hs | ⟨o, hs⟩) | hs
    · rcases ho a with h | ⟨o, xs, h⟩
      · rw [hs] at h; cases h
      · rw [hs] at h; cases h
    · exact .inl ⟨o, hs⟩
    · exact .inr hs
  have r : RepVs K (fun _ => False) [] H (ns.map V.int) (ns.map D.int) := by
    clear hs hl e q hf
    induction ns with
    | nil => exact .nil
    | cons n ns ih => exact .cons (.int n) ih
  exact ⟨rfl, fun _ => False, [], [], [.frz (ns.map .int)], .cons (.frz hf r) .nil, ⟨rfl, List.nodup_nil, fun l xs h => by simp at h, fun _ h => h.elim⟩, .bl true, m', e, fun ph' H' u s w r => by cases r; exact q H'⟩
/-- the text's defs by places, checked at once -/
def scB (fd : FnD) (st : Stmt) : Bool := decide ((defScope st).kind = .function) && !(defScope st).isCoroutine && !(defScope st).isGenerator && decide fd.ns.Nodup && decide (fd.ns.take fd.ps.length = fd.ps) &&
  fd.ps.all (fun x => decide ((defScope st).names.lookup x = some .local) || decide ((defScope st).names.lookup x = some .cell)) && (defScope st).names.all fun y => decide (y.2 ≠ .free)
theorem scB_ok {fd : FnD} {st : Stmt} (h : scB fd st = true) : FnScope fd.ns fd.ps (defScope st) := by
  simp only [scB, Bool.and_eq_true, decide_eq_true_eq, Bool.not_eq_true', List.all_eq_true, Bool.or_eq_true] at h
  obtain ⟨⟨⟨⟨⟨⟨h1, h2⟩, h3⟩, h4⟩, h5⟩, h6⟩, h7⟩ := h
  exact ⟨h1, h2, h3, h4, h5, fun x hx => h6 x hx, fun y hy => h7 y hy⟩
def defIn (K : PySem.W.Frag) (nm : Str) (st : Stmt) : Prop := ∃ (f : Addr) (od an : Option Addr) (sl : Array (Option Value)) (oc kV dc pm cd ct : Value), PySem.W.nsIn K mainGlobals nm = some (some (.ref f)) ∧
  K.lookup f = some ⟨oc, od, .func (PySem.W.fnOf nm nm (defArgs st) (defBody st) (defScope st) .none kV dc pm an cd ct), sl⟩ ∧ PySem.W.codeIn K cd nm = true ∧ PySem.W.keepIn K (.ref f) = true
theorem defIn_mk {K : PySem.W.Frag} {nm : Str} {st : Stmt} {f : Addr} {od an : Option Addr} {sl : Array (Option Value)} {oc kV dc pm cd ct : Value} (a : PySem.W.nsIn K mainGlobals nm = some (some (.ref f)))
    (l : K.lookup f = some ⟨oc, od, .func (PySem.W.fnOf nm nm (defArgs st) (defBody st) (defScope st) .none kV dc pm an cd ct), sl⟩) (c : PySem.W.codeIn K cd nm = true) (k : PySem.W.keepIn K (.ref f) = true) : defIn K nm st := ⟨f, od, an, sl, oc, kV, dc, pm, cd, ct, a, l, c, k⟩
def plainArgs (fd : FnD) (st : Stmt) : Prop := ∀ (kV doc pm : Value) (an : Option Addr) (cdv ct : Value) (us : List Value), us.length = fd.ps.length → bindArgs (PySem.W.fnOf fd.nm fd.nm (defArgs st) (defBody st) (defScope st) .none kV doc pm an cdv ct) ⟨us, []⟩ = pure (fd.ps.zip us)
theorem tab_of {K : PySem.W.Frag} {mg : Str → Option Value} {T : List FnD} {G : List (Str × D)} {h : Heap} (X : K.In h) (Gn : h.Ns mainGlobals mg)
    (H : ∀ (i : Nat) (fd : FnD), T[i]? = some fd → ∃ st, defIn K fd.nm st ∧ plainArgs fd st ∧ scB fd st = true ∧ isB T G ⟨fd.ns, defScope st, fun _ => true⟩ fd.body (defBody st) = true) : Tab K mg T G := ⟨fun i fd e => by
  obtain ⟨st, ⟨f, od, an, sl, oc, kV, dc, pm, cd, ct, a1, l1, c1, k1⟩, pa, sc, is⟩ := H i fd e
  exact ⟨f, _, st, fun_mk l1 c1 k1, scB_ok sc, is, fun us hl => pa _ _ _ _ _ _ us hl, PySem.W.mg_of X Gn a1⟩⟩
/-- the law's end: the pure statement is left -/
theorem law_walk {l : PySem.W.OpenLaw} {q : Program} {loose : List Str} {XP : (Str → Option Value) → Heap → Prop} {YP : World → Heap → Prop} {d : DefRec} {K : Params → PySem.W.Frag} {T : List FnD} {G : List (Str × D)} {N li : Nat} {fd : FnD} {x : Str}
    (hn : l.most = some 63) (hdf : d.params.defaults = []) (hr : Room (N / 3 + 1) callerA) (hli : T[li]? = some fd) (hps : fd.ps = [x]) (hnm : d.name = fd.nm)
    (hY : ∀ (w : World) (h : Heap), YP w h → (K w.params).In h)
    (tab : ∀ (w : World) (mg : Str → Option Value) (h : Heap), (K w.params).In h → h.Ns mainGlobals mg → Tab (K w.params) mg T G ∧ Glo (K w.params) mg G)
    (hrun : ∀ ns : List Int, ns.length ≤ 63 → ∃ m', run T (gv G) (N + 1) li [.frz (ns.map .int)] [] = some (.bl true, m')) :
    PySem.W.WalkO q loose XP YP l.row.toRowW d [] (fun f vs => PySem.call f vs) :=
  L2.walk_of (n := 63) (k := N / 3 + 1) (x := x) (CX := fun _ => CX0) (sp := fun w => spLaw (K w.params)) hn (by decide) hdf hr hY (fun w mg fa h X Gn hfa => by
    obtain ⟨Tb, Gk⟩ := tab w mg h X Gn
    obtain ⟨f, fdat, st, Fu, Sc, is, bi, mgf⟩ := Tb.fn li fd hli
    rw [hnm, mgf] at hfa
    cases hfa
    refine ⟨fdat, fun s u => .of_eq (by rw [bi [u] (by rw [hps]; rfl), hps]; rfl), fun base _ _ => ?_⟩
    have k1 := fn_ok (P := l.prog) (w := w) (base := base) (lev Tb Gk N) Gk Fu Sc is
    rw [← hps]
    refine (k1.ok (k := N / 3 + 1) (by omega)).imp fun vs H Q E q => ?_
    have e : fd.ps.length = 1 := by rw [hps]; rfl
    rw [e]
    refine law_sp (fun ns hl => ?_) vs H Q E q
    obtain ⟨m', hm⟩ := hrun ns hl
    simp only [run, hli] at hm
    exact ⟨m', hm⟩) (fun _ _ a ns hl ho hS => ⟨a, ns, rfl, hS, ho, hl, fun _ => rfl⟩) fun _ _ _ _ _ z => z
end Pv

namespace Pv
open PySem
/-! ## the evaluator by rows that simp can follow from the left: what comes next is always data -/
section
variable (F : Fn) (G : List D)
abbrev O1 := Option (D × M)
def rt1 (o : Option D) (m : M) : O1 := o.map fun d => (d, m)
def rtB (o : Option Bool) (m : M) : O1 := o.map fun d => (.bl d, m)
def kVar (o : Option (Option D)) (m : M) : O1 := match o with
  | some (some d) => some (d, m)
  | _ => none
def kBin2 (op : BOp) (x : D) (r : O1) : O1 := r.bind fun q => rt1 (bopD q.2 op x q.1) q.2
def kBin1 (op : BOp) (b : E) (env : Env) (r : O1) : O1 := r.bind fun p => kBin2 op p.1 (evE F G b env p.2)
def kCmp2 (op : COp) (x : D) (r : O1) : O1 := r.bind fun q => rtB (cmpD q.2 op x q.1) q.2
def kCmp1 (op : COp) (b : E) (env : Env) (r : O1) : O1 := r.bind fun p => kCmp2 op p.1 (evE F G b env p.2)
def kNeg (r : O1) : O1 := r.bind fun p => match p.1 with
  | .int i => some (.int (-i), p.2)
  | _ => none
def kIsN (r : O1) : O1 := r.map fun p => (.bl (decide (p.1 = .non)), p.2)
def kNotN (r : O1) : O1 := r.map fun p => (.bl (!decide (p.1 = .non)), p.2)
def kAnd (b : E) (env : Env) (r : O1) : O1 := r.bind fun p => match p.1 with
  | .bl true => evE F G b env p.2
  | .bl false => some (.bl false, p.2)
  | _ => none
def kOr (b : E) (env : Env) (r : O1) : O1 := r.bind fun p => match p.1 with
  | .bl true => some (.bl true, p.2)
  | .bl false => evE F G b env p.2
  | _ => none
def kNot (r : O1) : O1 := r.bind fun p => match p.1 with
  | .bl k => some (.bl (!k), p.2)
  | _ => none
def kIfE (a b : E) (env : Env) (r : O1) : O1 := r.bind fun p => match p.1 with
  | .bl true => evE F G a env p.2
  | .bl false => evE F G b env p.2
  | _ => none
def kChain3 (p : COp) (y : D) (r : O1) : O1 := r.bind fun z => rtB (cmpD z.2 p y z.1) z.2
def kChainB (p : COp) (c : E) (env : Env) (y : D) (m : M) (o : Option Bool) : O1 := o.bind fun k => if k then kChain3 p y (evE F G c env m) else some (.bl false, m)
def kChain2 (o p : COp) (c : E) (env : Env) (x : D) (r : O1) : O1 := r.bind fun y => kChainB F G p c env y.1 y.2 (cmpD y.2 o x y.1)
def kChain1 (o p : COp) (b c : E) (env : Env) (r : O1) : O1 := r.bind fun x => kChain2 F G o p c env x.1 (evE F G b env x.2)
abbrev OA := Option (List D × M)
def kCons2 (x : D) (r : OA) : OA := r.bind fun q => some (x :: q.1, q.2)
def kCons1 (es : Es) (env : Env) (r : O1) : OA := r.bind fun p => kCons2 p.1 (evA F G es env p.2)
def kCall (f : Nat) (r : OA) : O1 := r.bind fun p => F f p.1 p.2
def kPure (m : M) (r : O1) : O1 := r.bind fun q => if q.2.take m.length = m ∧ pure_ q.1 = true then some (q.1, m) else none
def kCallP (f : Nat) (r : OA) : O1 := r.bind fun p => kPure p.2 (F f p.1 p.2)
def kBi (b : BI) (r : OA) : O1 := r.bind fun p => rt1 (biD p.2 b p.1) p.2
def kIsi (t : Ty) (r : O1) : O1 := r.bind fun p => rtB (isiD p.1 t) p.2
def kListRg (r : O1) : O1 := r.bind fun p => match p.1 with
  | .int n => if rgOk n && decide (n.toNat ≤ lim) then some (.lst (rangeD 0 n.toNat), p.2) else none
  | _ => none
def kIx2 (x : D) (r : O1) : O1 := r.bind fun q => rt1 (ixD q.2 x q.1) q.2
def kIx1 (b : E) (env : Env) (r : O1) : O1 := r.bind fun p => kIx2 p.1 (evE F G b env p.2)
def kSl3 (x : D) (lo : Option Int) (r : Option (Option Int × M)) : O1 := r.bind fun h => rt1 (slD h.2 x lo h.1) h.2
def kSl2 (x : D) (hi : E) (env : Env) (r : Option (Option Int × M)) : O1 := r.bind fun l => kSl3 x l.1 (partO (fun env m => evE F G hi env m) (isNop hi) env l.2)
def kSl1 (lo hi : E) (env : Env) (r : O1) : O1 := r.bind fun p => kSl2 F G p.1 hi env (partO (fun env m => evE F G lo env m) (isNop lo) env p.2)
def kTup (r : OA) : O1 := r.bind fun p => if p.1.length ≤ lim then some (.tup p.1, p.2) else none
def kLst (r : OA) : O1 := r.bind fun p => if p.1.length ≤ lim then some (.lst p.1, p.2) else none
def kLc (r : OA) : O1 := r.map fun q => (.lst q.1, q.2)
def kComp (own : List (Str × Nat)) (t : Tg) (e : E) (env : Env) (r : OA) : O1 := r.bind fun p => if p.1.length ≤ lim then kLc (compL t (wipeE env (own.map (·.2))) (fun env m => evE F G e env m) p.1 p.2) else none
def kCompI (own : List (Str × Nat)) (t : Tg) (c e : E) (env : Env) (r : OA) : O1 := r.bind fun p => if p.1.length ≤ lim then kLc (compLI t (wipeE env (own.map (·.2))) (fun env m => evE F G c env m) (fun env m => evE F G e env m) p.1 p.2) else none
def kBox (r : O1) : O1 := r.bind fun p => match p.1 with
  | .lst xs => some (.ref p.2.length, p.2 ++ [.lst xs])
  | _ => none
def popM (m : M) : D → O1
  | .ref l => match m[l]? with
    | some (.lst xs) => match xs[xs.length - 1]? with
      | some y => some (y, m.set l (.lst xs.dropLast))
      | none => none
    | none => none
  | _ => none
def kPop (r : O1) : O1 := r.bind fun p => popM p.2 p.1
def popAtM (m : M) : D → D → O1
  | .ref l, .int i => match m[l]? with
    | some (.lst xs) => match ixAt xs.length i with
      | some k => match xs[k]? with
        | some y => if decide (-(2 ^ 63) ≤ i) && decide (i < 2 ^ 63) then some (y, m.set l (.lst (xs.eraseIdx k))) else none
        | none => none
      | none => none
    | none => none
  | _, _ => none
def kPopAt2 (x : D) (r : O1) : O1 := r.bind fun q => popAtM q.2 x q.1
def kPopAt1 (b : E) (env : Env) (r : O1) : O1 := r.bind fun p => kPopAt2 p.1 (evE F G b env p.2)
def appendM (m : M) (y : D) : D → O1
  | .ref l => match m[l]? with
    | some (.lst xs) => if xs.length < lim then some (.non, m.set l (.lst (xs ++ [y]))) else none
    | none => none
  | _ => none
def kAppend2 (x : D) (r : O1) : O1 := r.bind fun q => appendM q.2 q.1 x
def kAppend1 (b : E) (env : Env) (r : O1) : O1 := r.bind fun p => kAppend2 p.1 (evE F G b env p.2)
def seqI : D → Option (List D)
  | .tup xs => some xs
  | .lst xs => some xs
  | _ => none
def rtL (o : Option (List D)) (m : M) : OA := o.map fun d => (d, m)
def kSeq (r : O1) : OA := r.bind fun p => rtL (seqI p.1) p.2
def rng1I : D → Option (List D)
  | .int n => if rgOk n then some (rangeD 0 n.toNat) else none
  | _ => none
def kRng1 (r : O1) : OA := r.bind fun p => rtL (rng1I p.1) p.2
def rng2I : D → D → Option (List D)
  | .int i, .int j => if rgOk i && rgOk j then some (rangeD i (j - i).toNat) else none
  | _, _ => none
def kRng22 (x : D) (r : O1) : OA := r.bind fun q => rtL (rng2I x q.1) q.2
def kRng21 (b : E) (env : Env) (r : O1) : OA := r.bind fun p => kRng22 p.1 (evE F G b env p.2)
def kZip2 (x : D) (r : O1) : OA := r.bind fun q => rtL (zipD x q.1) q.2
def kZip1 (b : E) (env : Env) (r : O1) : OA := r.bind fun p => kZip2 p.1 (evE F G b env p.2)
-- statements
def rtE (o : Option Env) (m : M) : R := o.map fun e => (.nx, e, m)
def kAsg (t : Tg) (env : Env) (r : O1) : R := r.bind fun p => rtE (bindTg p.2 t p.1 env) p.2
def setM (env : Env) (m : M) (v : D) : D → D → R
  | .ref l, .int k => match m[l]? with
    | some (.lst xs) => match ixAt xs.length k with
      | some j => some (.nx, env, m.set l (.lst (xs.set j v)))
      | none => none
    | none => none
  | _, _ => none
def kSet3 (env : Env) (v o : D) (r : O1) : R := r.bind fun r => setM env r.2 v o r.1
def kSet2 (i : E) (env : Env) (v : D) (r : O1) : R := r.bind fun q => kSet3 env v q.1 (evE F G i env q.2)
def kSet1 (o i : E) (env : Env) (r : O1) : R := r.bind fun p => kSet2 F G i env p.1 (evE F G o env p.2)
def augR (i : Nat) (op : BOp) (env : Env) (m : M) : Option (Option D) → D → R
  | some (some (.int a)), .int b => match op with
    | .add => some (.nx, env.set i (some (.int (a + b))), m)
    | .sub => some (.nx, env.set i (some (.int (a - b))), m)
    | _ => none
  | _, _ => none
def kAug (i : Nat) (op : BOp) (env : Env) (r : O1) : R := r.bind fun p => augR i op env p.2 env[i]? p.1
def kEx (env : Env) (r : O1) : R := r.map fun p => (.nx, env, p.2)
def kIfS (a b : Ss) (env : Env) (r : O1) : R := r.bind fun p => match p.1 with
  | .bl true => evB F G a env p.2
  | .bl false => evB F G b env p.2
  | _ => none
def kFor (t : Tg) (b : Ss) (env : Env) (r : OA) : R := r.bind fun p => forL t (fun env m => evB F G b env m) p.1 env p.2
def kRet (env : Env) (r : O1) : R := r.map fun p => (.rt p.1, env, p.2)
def kSS (ss : Ss) (r : R) : R := r.bind fun r => match r.1 with
  | .nx => evB F G ss r.2.1 r.2.2
  | _ => some r
def kFn (r : R) : O1 := r.bind fun r => match r.1 with
  | .rt d => some (d, r.2.2)
  | .nx => some (.non, r.2.2)
  | _ => none
end
section
variable {F : Fn} {G : List D} {env e' : Env} {m : M} {x y d : D} {a b c o : E} {es : Es} {as : Es} {xs : List D} {op p : BOp} {co cp : COp} {i k : Nat} {bb : Bool} {s : S} {ss : Ss} {t : Tg} {it : It} {v : Option D}
theorem x_var : evE F G (.var i) env m = kVar env[i]? m := by rw [evE]; rfl
theorem y_var : kVar (some (some d)) m = some (d, m) := rfl
theorem x_con : evE F G (.con d) env m = some (d, m) := by rw [evE]
theorem x_glob : evE F G (.glob i) env m = rt1 G[i]? m := by rw [evE]; rfl
theorem x_bin : evE F G (.bin op a b) env m = kBin1 F G op b env (evE F G a env m) := by rw [evE]; rfl
theorem x_neg : evE F G (.neg a) env m = kNeg (evE F G a env m) := by rw [evE]; rfl
theorem x_cmp : evE F G (.cmp co a b) env m = kCmp1 F G co b env (evE F G a env m) := by rw [evE]; rfl
theorem x_chain : evE F G (.chain co cp a b c) env m = kChain1 F G co cp b c env (evE F G a env m) := by rw [evE]; rfl
theorem x_isN : evE F G (.isN a) env m = kIsN (evE F G a env m) := by rw [evE]; rfl
theorem x_notN : evE F G (.notN a) env m = kNotN (evE F G a env m) := by rw [evE]; rfl
theorem x_and : evE F G (.and_ a b) env m = kAnd F G b env (evE F G a env m) := by rw [evE]; rfl
theorem x_and1 : evE F G (.and1 a) env m = evE F G a env m := by rw [evE]
theorem x_or : evE F G (.or_ a b) env m = kOr F G b env (evE F G a env m) := by rw [evE]; rfl
theorem x_or1 : evE F G (.or1 a) env m = evE F G a env m := by rw [evE]
theorem x_not : evE F G (.not_ a) env m = kNot (evE F G a env m) := by rw [evE]; rfl
theorem x_ife : evE F G (.ife c a b) env m = kIfE F G a b env (evE F G c env m) := by rw [evE]; rfl
theorem x_call : evE F G (.call i as) env m = kCall F i (evA F G as env m) := by rw [evE]; rfl
theorem x_callP : evE F G (.callP i as) env m = kCallP F i (evA F G as env m) := by rw [evE]; rfl
theorem x_bi {q : BI} : evE F G (.bi q as) env m = kBi q (evA F G as env m) := by rw [evE]; rfl
theorem x_isi {q : Ty} : evE F G (.isi a q) env m = kIsi q (evE F G a env m) := by rw [evE]; rfl
theorem x_listRg : evE F G (.listRg a) env m = kListRg (evE F G a env m) := by rw [evE]; rfl
theorem x_ix : evE F G (.ix a b) env m = kIx1 F G b env (evE F G a env m) := by rw [evE]; rfl
theorem x_sl : evE F G (.sl a b c) env m = kSl1 F G b c env (evE F G a env m) := by rw [evE]; rfl
theorem x_tup : evE F G (.tup as) env m = kTup (evA F G as env m) := by rw [evE]; rfl
theorem x_lst : evE F G (.lst as) env m = kLst (evA F G as env m) := by rw [evE]; rfl
theorem x_comp {own : List (Str × Nat)} : evE F G (.comp own t it a) env m = kComp F G own t a env (evI F G it env m) := by rw [evE]; rfl
theorem x_compIf {own : List (Str × Nat)} : evE F G (.compIf own t it c a) env m = kCompI F G own t c a env (evI F G it env m) := by rw [evE]; rfl
theorem x_box : evE F G (.box a) env m = kBox (evE F G a env m) := by rw [evE]; rfl
theorem x_pop : evE F G (.pop a) env m = kPop (evE F G a env m) := by
  rw [evE]
  unfold kPop popM
  congr 1
theorem x_popAt : evE F G (.popAt a b) env m = kPopAt1 F G b env (evE F G a env m) := by
  rw [evE]
  unfold kPopAt1 kPopAt2 popAtM
  congr 1
theorem x_append : evE F G (.append a b) env m = kAppend1 F G b env (evE F G a env m) := by
  rw [evE]
  unfold kAppend1 kAppend2 appendM
  congr 1
theorem x_nil : evA F G .nil env m = some ([], m) := by rw [evA]
theorem x_cons : evA F G (.cons a as) env m = kCons1 F G as env (evE F G a env m) := by rw [evA]; rfl
theorem x_seq : evI F G (.seq a) env m = kSeq (evE F G a env m) := by
  rw [evI]
  unfold kSeq
  congr 1
  funext p
  unfold seqI rtL
  cases p.1 <;> rfl
theorem x_rng1 : evI F G (.rng1 a) env m = kRng1 (evE F G a env m) := by
  rw [evI]
  unfold kRng1
  congr 1
  funext p
  unfold rng1I rtL
  cases p.1 <;> first | rfl | skip
  simp only
  split <;> rfl
theorem x_rng2 : evI F G (.rng2 a b) env m = kRng21 F G b env (evE F G a env m) := by
  rw [evI]
  unfold kRng21 kRng22
  congr 1
  funext p
  congr 1
  funext q
  unfold rng2I rtL
  cases p.1 <;> cases q.1 <;> first | rfl | skip
  simp only
  split <;> rfl
theorem x_zip : evI F G (.zip a b) env m = kZip1 F G b env (evE F G a env m) := by rw [evI]; rfl
theorem x_asg : evS F G (.asg t a) env m = kAsg t env (evE F G a env m) := by rw [evS]; rfl
theorem x_setix : evS F G (.setix o b a) env m = kSet1 F G o b env (evE F G a env m) := by
  rw [evS]
  unfold kSet1 kSet2 kSet3 setM
  congr 1
theorem x_aug : evS F G (.aug i op a) env m = kAug i op env (evE F G a env m) := by
  rw [evS]
  unfold kAug augR
  cases h : env[i]? with
  | none => simp only; cases evE F G a env m <;> rfl
  | some v =>
    cases v with
    | none => simp only; cases evE F G a env m <;> rfl
    | some d =>
      cases d <;> simp only <;> first | (cases evE F G a env m <;> rfl) | skip
      congr 1
      funext p
      cases p.1 <;> rfl
theorem x_ex : evS F G (.ex a) env m = kEx env (evE F G a env m) := by rw [evS]; rfl
theorem x_if {sa sb : Ss} : evS F G (.ife a sa sb) env m = kIfS F G sa sb env (evE F G a env m) := by rw [evS]; rfl
theorem x_for : evS F G (.for_ t it ss) env m = kFor F G t ss env (evI F G it env m) := by rw [evS]; rfl
theorem x_while : evS F G (.while_ a ss) env m = whileL (evE F G a) (evB F G ss) turns env m := by rw [evS]
theorem x_ret : evS F G (.ret a) env m = kRet env (evE F G a env m) := by rw [evS]; rfl
theorem x_brk : evS F G .brk env m = some (.bk, env, m) := by rw [evS]
theorem x_cont : evS F G .cont env m = some (.ct, env, m) := by rw [evS]
theorem x_bnil : evB F G .nil env m = some (.nx, env, m) := by rw [evB]
theorem x_bcons : evB F G (.cons s ss) env m = kSS F G ss (evS F G s env m) := by rw [evB]; rfl
theorem x_fn {fd : FnD} {ds : List D} (h : ds.length = fd.ps.length) : runBody F G fd ds m = kFn (evB F G fd.body (startE fd.ns.length ds) m) := by
  unfold runBody
  rw [if_pos h]
  rfl
-- going on
theorem y_rt1 : rt1 (some d) m = some (d, m) := rfl
theorem y_rtB : rtB (some bb) m = some (.bl bb, m) := rfl
theorem y_bin1 : kBin1 F G op b env (some (x, m)) = kBin2 op x (evE F G b env m) := rfl
theorem y_bin2 : kBin2 op x (some (y, m)) = rt1 (bopD m op x y) m := rfl
theorem y_cmp1 : kCmp1 F G co b env (some (x, m)) = kCmp2 co x (evE F G b env m) := rfl
theorem y_cmp2 : kCmp2 co x (some (y, m)) = rtB (cmpD m co x y) m := rfl
theorem y_neg {n : Int} : kNeg (some (.int n, m)) = some (.int (-n), m) := rfl
theorem y_isN : kIsN (some (x, m)) = some (.bl (decide (x = .non)), m) := rfl
theorem y_notN : kNotN (some (x, m)) = some (.bl (!decide (x = .non)), m) := rfl
theorem y_andT : kAnd F G b env (some (.bl true, m)) = evE F G b env m := rfl
theorem y_andF : kAnd F G b env (some (.bl false, m)) = some (.bl false, m) := rfl
theorem y_orT : kOr F G b env (some (.bl true, m)) = some (.bl true, m) := rfl
theorem y_orF : kOr F G b env (some (.bl false, m)) = evE F G b env m := rfl
theorem y_not : kNot (some (.bl bb, m)) = some (.bl (!bb), m) := rfl
theorem y_ifT : kIfE F G a b env (some (.bl true, m)) = evE F G a env m := rfl
theorem y_ifF : kIfE F G a b env (some (.bl false, m)) = evE F G b env m := rfl
theorem y_chain1 : kChain1 F G co cp b c env (some (x, m)) = kChain2 F G co cp c env x (evE F G b env m) := rfl
theorem y_chain2 : kChain2 F G co cp c env x (some (y, m)) = kChainB F G cp c env y m (cmpD m co x y) := rfl
theorem y_chainT : kChainB F G cp c env y m (some true) = kChain3 cp y (evE F G c env m) := rfl
theorem y_chainF : kChainB F G cp c env y m (some false) = some (.bl false, m) := rfl
theorem y_chain3 : kChain3 cp x (some (y, m)) = rtB (cmpD m cp x y) m := rfl
theorem y_cons1 : kCons1 F G as env (some (x, m)) = kCons2 x (evA F G as env m) := rfl
theorem y_cons2 : kCons2 x (some (xs, m)) = some (x :: xs, m) := rfl
theorem y_call : kCall F i (some (xs, m)) = F i xs m := rfl
theorem y_callP : kCallP F i (some (xs, m)) = kPure m (F i xs m) := rfl
theorem y_pure (h : pure_ x = true) : kPure m (some (x, m)) = some (x, m) := by
  unfold kPure
  rw [Option.bind_some, if_pos ⟨List.take_length, h⟩]
theorem y_pureG {g : M} (h : pure_ x = true) : kPure m (some (x, m ++ g)) = some (x, m) := by
  unfold kPure
  rw [Option.bind_some, if_pos ⟨by simp, h⟩]
theorem y_bi {q : BI} : kBi q (some (xs, m)) = rt1 (biD m q xs) m := rfl
theorem y_isi {q : Ty} : kIsi q (some (x, m)) = rtB (isiD x q) m := rfl
theorem y_listRg {n : Int} (h : rgOk n = true) (h' : n.toNat ≤ lim) : kListRg (some (.int n, m)) = some (.lst (rangeD 0 n.toNat), m) := by
  unfold kListRg
  simp only [Option.bind_some, h, decide_eq_true h', Bool.and_self, if_true]
theorem y_ix1 : kIx1 F G b env (some (x, m)) = kIx2 x (evE F G b env m) := rfl
theorem y_ix2 : kIx2 x (some (y, m)) = rt1 (ixD m x y) m := rfl
theorem lim10 {n : Nat} (h : n ≤ 100000) : n ≤ lim := Nat.le_trans h (by decide)
theorem y_tup (h : xs.length ≤ lim) : kTup (some (xs, m)) = some (.tup xs, m) := by
  unfold kTup; rw [Option.bind_some, if_pos h]
theorem y_tup0 : kTup (some ([], m)) = some (.tup [], m) := y_tup (lim10 (by simp))
theorem y_tup1 : kTup (some ([x], m)) = some (.tup [x], m) := y_tup (lim10 (by simp))
theorem y_tup2 : kTup (some ([x, y], m)) = some (.tup [x, y], m) := y_tup (lim10 (by simp))
theorem y_tup3 : kTup (some ([x, y, d], m)) = some (.tup [x, y, d], m) := y_tup (lim10 (by simp))
theorem y_tup4 {z : D} : kTup (some ([x, y, d, z], m)) = some (.tup [x, y, d, z], m) := y_tup (lim10 (by simp))
theorem y_lst (h : xs.length ≤ lim) : kLst (some (xs, m)) = some (.lst xs, m) := by
  unfold kLst; rw [Option.bind_some, if_pos h]
theorem y_lst0 : kLst (some ([], m)) = some (.lst [], m) := y_lst (lim10 (by simp))
theorem y_lst1 : kLst (some ([x], m)) = some (.lst [x], m) := y_lst (lim10 (by simp))
theorem y_lst2 : kLst (some ([x, y], m)) = some (.lst [x, y], m) := y_lst (lim10 (by simp))
theorem y_lst3 : kLst (some ([x, y, d], m)) = some (.lst [x, y, d], m) := y_lst (lim10 (by simp))
theorem y_lst4 {z : D} : kLst (some ([x, y, d, z], m)) = some (.lst [x, y, d, z], m) := y_lst (lim10 (by simp))
theorem y_lst5 {z z1 : D} : kLst (some ([x, y, d, z, z1], m)) = some (.lst [x, y, d, z, z1], m) := y_lst (lim10 (by simp))
theorem y_lst6 {z z1 z2 : D} : kLst (some ([x, y, d, z, z1, z2], m)) = some (.lst [x, y, d, z, z1, z2], m) := y_lst (lim10 (by simp))
theorem y_lst7 {z z1 z2 z3 : D} : kLst (some ([x, y, d, z, z1, z2, z3], m)) = some (.lst [x, y, d, z, z1, z2, z3], m) := y_lst (lim10 (by simp))
theorem y_tup5 {z z1 : D} : kTup (some ([x, y, d, z, z1], m)) = some (.tup [x, y, d, z, z1], m) := y_tup (lim10 (by simp))
theorem y_tup6 {z z1 z2 : D} : kTup (some ([x, y, d, z, z1, z2], m)) = some (.tup [x, y, d, z, z1, z2], m) := y_tup (lim10 (by simp))
def ownN (own : List (Str × Nat)) : List Nat := own.map (·.2)
theorem w_0 : wipeE env (ownN []) = env := rfl
theorem w_1 {z : Str} {own : List (Str × Nat)} : wipeE env (ownN ((z, i) :: own)) = (wipeE env (ownN own)).set i none := rfl
theorem y_comp {own : List (Str × Nat)} (h : xs.length ≤ lim) : kComp F G own t a env (some (xs, m)) = kLc (compL t (wipeE env (ownN own)) (evE F G a) xs m) := by
  unfold kComp ownN; rw [Option.bind_some, if_pos h]
theorem y_compI {own : List (Str × Nat)} (h : xs.length ≤ lim) : kCompI F G own t c a env (some (xs, m)) = kLc (compLI t (wipeE env (ownN own)) (evE F G c) (evE F G a) xs m) := by
  unfold kCompI ownN; rw [Option.bind_some, if_pos h]
theorem y_lc : kLc (some (xs, m)) = some (.lst xs, m) := rfl
theorem y_box : kBox (some (.lst xs, m)) = some (.ref m.length, m ++ [.lst xs]) := rfl
theorem y_pop : kPop (some (x, m)) = popM m x := rfl
theorem y_popAt1 : kPopAt1 F G b env (some (x, m)) = kPopAt2 x (evE F G b env m) := rfl
theorem y_popAt2 : kPopAt2 x (some (y, m)) = popAtM m x y := rfl
theorem y_append1 : kAppend1 F G b env (some (x, m)) = kAppend2 x (evE F G b env m) := rfl
theorem y_append2 : kAppend2 x (some (y, m)) = appendM m y x := rfl
theorem y_rtL : rtL (some xs) m = some (xs, m) := rfl
theorem y_seq : kSeq (some (x, m)) = rtL (seqI x) m := rfl
theorem y_seqT : seqI (.tup xs) = some xs := rfl
theorem y_seqL : seqI (.lst xs) = some xs := rfl
theorem y_rng1 {n : Int} (h : rgOk n = true) : kRng1 (some (.int n, m)) = some (rangeD 0 n.toNat, m) := by
  unfold kRng1 rng1I; simp [h, rtL]
theorem y_rng21 : kRng21 F G b env (some (x, m)) = kRng22 x (evE F G b env m) := rfl
theorem y_zip1 : kZip1 F G b env (some (x, m)) = kZip2 x (evE F G b env m) := rfl
theorem y_zip2 : kZip2 x (some (y, m)) = rtL (zipD x y) m := rfl
theorem y_zipT {ys : List D} : zipD (.tup xs) (.tup ys) = some (List.zipWith (fun a b => .tup [a, b]) xs ys) := rfl
theorem y_zipL {ys : List D} : zipD (.lst xs) (.lst ys) = some (List.zipWith (fun a b => .tup [a, b]) xs ys) := rfl
theorem y_rtE : rtE (some e') m = some (.nx, e', m) := rfl
theorem y_asg : kAsg t env (some (x, m)) = rtE (bindTg m t x env) m := rfl
theorem y_set1 : kSet1 F G o b env (some (x, m)) = kSet2 F G b env x (evE F G o env m) := rfl
theorem y_set2 : kSet2 F G b env x (some (y, m)) = kSet3 env x y (evE F G b env m) := rfl
theorem y_set3 : kSet3 env x y (some (d, m)) = setM env m x y d := rfl
theorem y_aug : kAug i op env (some (x, m)) = augR i op env m env[i]? x := rfl
theorem y_augA {n k : Int} : augR i .add env m (some (some (.int n))) (.int k) = some (.nx, env.set i (some (.int (n + k))), m) := rfl
theorem y_augS {n k : Int} : augR i .sub env m (some (some (.int n))) (.int k) = some (.nx, env.set i (some (.int (n - k))), m) := rfl
theorem y_ex : kEx env (some (x, m)) = some (.nx, env, m) := rfl
theorem y_ifST {sa sb : Ss} : kIfS F G sa sb env (some (.bl true, m)) = evB F G sa env m := rfl
theorem y_ifSF {sa sb : Ss} : kIfS F G sa sb env (some (.bl false, m)) = evB F G sb env m := rfl
theorem y_for : kFor F G t ss env (some (xs, m)) = forL t (evB F G ss) xs env m := rfl
theorem y_ret : kRet env (some (x, m)) = some (.rt x, env, m) := rfl
theorem y_nx : kSS F G ss (some (.nx, env, m)) = evB F G ss env m := rfl
theorem y_rt : kSS F G ss (some (.rt x, env, m)) = some (.rt x, env, m) := rfl
theorem y_bk : kSS F G ss (some (.bk, env, m)) = some (.bk, env, m) := rfl
theorem y_ct : kSS F G ss (some (.ct, env, m)) = some (.ct, env, m) := rfl
theorem y_fnR : kFn (some (.rt x, env, m)) = some (x, m) := rfl
theorem y_fnN : kFn (some (.nx, env, m)) = some (.non, m) := rfl
theorem y_nm : bindTg m (.nm i) d env = some (env.set i (some d)) := by rw [bindTg]
theorem y_tp {ts : Tgs} : bindTg m (.tp ts) (.tup xs) env = bindTgs m ts xs env := by rw [bindTg]
theorem y_tgn : bindTgs m .nil [] env = some env := by rw [bindTgs]
def kTgs (m : M) (ts : Tgs) (xs : List D) (r : Option Env) : Option Env := r.bind fun e => bindTgs m ts xs e
theorem y_tgc {ts : Tgs} : bindTgs m (.cons t ts) (d :: xs) env = kTgs m ts xs (bindTg m t d env) := by rw [bindTgs]; rfl
theorem y_tgk {ts : Tgs} : kTgs m ts xs (some env) = bindTgs m ts xs env := rfl
-- values
theorem v_add {n k : Int} : bopD m .add (.int n) (.int k) = some (.int (n + k)) := rfl
theorem v_sub {n k : Int} : bopD m .sub (.int n) (.int k) = some (.int (n - k)) := rfl
theorem v_mul {n k : Int} (h : mulOk n k = true) : bopD m .mul (.int n) (.int k) = some (.int (n * k)) := (if_pos h : (if mulOk n k = true then some (D.int (n * k)) else none) = _)
theorem v_fdiv {n k : Int} (h : divOk k = true) : bopD m .fdiv (.int n) (.int k) = some (.int (n / k)) := (if_pos h : (if divOk k = true then some (D.int (n / k)) else none) = _)
theorem v_mod {n k : Int} (h : 0 < k) : bopD m .mod (.int n) (.int k) = some (.int (n % k)) := (if_pos h : (if 0 < k then some (D.int (n % k)) else none) = _)
theorem v_pow {n k : Int} (h : powOk n k = true) : bopD m .pow (.int n) (.int k) = some (.int (n ^ k.toNat)) := (if_pos h : (if powOk n k = true then some (D.int (n ^ k.toNat)) else if powOk2 n k then some (D.int (n ^ k.toNat)) else none) = _)
theorem v_catT {xs ys : List D} (h : xs.length + ys.length ≤ lim) : bopD m .add (.tup xs) (.tup ys) = some (.tup (xs ++ ys)) := (if_pos h : (if xs.length + ys.length ≤ lim then some (D.tup (xs ++ ys)) else none) = _)
theorem v_catL {xs ys : List D} (h : xs.length + ys.length ≤ lim) : bopD m .add (.lst xs) (.lst ys) = some (.lst (xs ++ ys)) := (if_pos h : (if xs.length + ys.length ≤ lim then some (D.lst (xs ++ ys)) else none) = _)
theorem v_rep {xs : List D} {k : Int} (h0 : 0 ≤ k) (h1 : k < 2 ^ 63) (h : xs.length * k.toNat ≤ lim) : bopD m .mul (.lst xs) (.int k) = some (.lst (List.replicate k.toNat xs).flatten) := by
  have h2 : small k = true := by simp only [small, Bool.and_eq_true, decide_eq_true_eq]; omega
  have h3 : (small k && decide (-(2 ^ 63) ≤ k) && decide (k < 2 ^ 63) && decide (xs.length * k.toNat ≤ lim)) = true := by simp only [h2, Bool.and_eq_true, decide_eq_true_eq, true_and]; omega
  exact (if_pos h3 : (if (small k && decide (-(2 ^ 63) ≤ k) && decide (k < 2 ^ 63) && decide (xs.length * k.toNat ≤ lim)) = true then some (D.lst (List.replicate k.toNat xs).flatten) else none) = _)
theorem v_eqI {n k : Int} : cmpD m .eq (.int n) (.int k) = some (decide (n = k)) := rfl
theorem v_eqS {n k : Str} : cmpD m .eq (.str n) (.str k) = some (decide (n = k)) := rfl
theorem v_eqB {n k : Bool} : cmpD m .eq (.bl n) (.bl k) = some (n == k) := rfl
theorem v_neI {n k : Int} : cmpD m .ne (.int n) (.int k) = some (!decide (n = k)) := rfl
theorem v_neS {n k : Str} : cmpD m .ne (.str n) (.str k) = some (!decide (n = k)) := rfl
theorem v_neB {n k : Bool} : cmpD m .ne (.bl n) (.bl k) = some (!(n == k)) := rfl
theorem v_lt {n k : Int} : cmpD m .lt (.int n) (.int k) = some (decide (n < k)) := rfl
theorem v_le {n k : Int} : cmpD m .le (.int n) (.int k) = some (decide (n ≤ k)) := rfl
theorem v_gt {n k : Int} : cmpD m .gt (.int n) (.int k) = some (decide (k < n)) := rfl
theorem v_ge {n k : Int} : cmpD m .ge (.int n) (.int k) = some (decide (k ≤ n)) := rfl
theorem v_lenT : biD m .len [.tup xs] = some (.int xs.length) := rfl
theorem v_lenL : biD m .len [.lst xs] = some (.int xs.length) := rfl
theorem v_lenF : biD m .len [.frz xs] = some (.int xs.length) := rfl
theorem v_tupL : biD m .tuple [.lst xs] = some (.tup xs) := rfl
theorem v_tupT : biD m .tuple [.tup xs] = some (.tup xs) := rfl
theorem v_listL : biD m .list [.lst xs] = some (.lst xs) := rfl
theorem v_listT : biD m .list [.tup xs] = some (.lst xs) := rfl
theorem v_intI {n : Int} : biD m .int [.int n] = some (.int n) := rfl
theorem v_intB : biD m .int [.bl bb] = some (.int (if bb then 1 else 0)) := rfl
theorem v_max {n k : Int} : biD m .max2 [.int n, .int k] = some (.int (if k > n then k else n)) := rfl
theorem v_min {n k : Int} : biD m .min2 [.int n, .int k] = some (.int (if k < n then k else n)) := rfl
theorem v_ixT {n : Int} : ixD m (.tup xs) (.int n) = atD xs n := rfl
theorem v_ixL {n : Int} : ixD m (.lst xs) (.int n) = atD xs n := rfl
theorem v_ixR {l : Nat} {n : Int} (h : m[l]? = some (.lst xs)) : ixD m (.ref l) (.int n) = atD xs n := by
  simp only [ixD, deref, h]
theorem v_lenR {l : Nat} (h : m[l]? = some (.lst xs)) : biD m .len [.ref l] = some (.int xs.length) := by
  simp only [biD, lenD, deref, h, Option.map_some]
theorem v_tupR {l : Nat} (h : m[l]? = some (.lst xs)) : biD m .tuple [.ref l] = some (.tup xs) := by
  simp only [biD, seqOf, deref, h, Option.map_some]
theorem v_setR {l j : Nat} {n : Int} (h : m[l]? = some (.lst xs)) (hj : ixAt xs.length n = some j) : setM env m x (.ref l) (.int n) = some (.nx, env, m.set l (.lst (xs.set j x))) := by
  simp only [setM, h, hj]
theorem v_upR {l : Nat} {ts : Tgs} (h : m[l]? = some (.lst xs)) : bindTg m (.up ts) (.ref l) env = bindTgs m ts xs env := by
  simp only [bindTg, deref, h]
theorem ixAt_nat {n j : Nat} (h : j < n) : ixAt n (j : Int) = some j := by
  unfold ixAt
  rw [if_pos (by omega), if_pos (by omega)]
  simp
theorem atD_nat {j : Nat} (h : xs[j]? = some x) : atD xs (j : Int) = some x := by
  unfold atD
  rw [ixAt_nat (List.getElem?_eq_some_iff.mp h).1]
  exact h
theorem atD_ints {l : List Int} {j : Nat} (h : j < l.length) : atD (l.map .int) (j : Int) = some (.int l[j]) := atD_nat (by simp [h])
theorem v_at0 : atD (x :: xs) 0 = some x := atD_nat (j := 0) rfl
theorem v_at1 : atD (x :: y :: xs) 1 = some y := atD_nat (j := 1) rfl
theorem v_at2 : atD (x :: y :: d :: xs) 2 = some d := atD_nat (j := 2) rfl
theorem y_sl1 : kSl1 F G .nop c env (some (x, m)) = kSl2 F G x c env (some (none, m)) := rfl
theorem y_sl1i {n : Int} : kSl1 F G (.con (.int n)) c env (some (x, m)) = kSl2 F G x c env (some (some n, m)) := by
  unfold kSl1 partO isNop
  rw [Option.bind_some]
  simp only [Bool.false_eq_true, if_false, x_con, Option.bind_some]
theorem y_sl2 {lo : Option Int} : kSl2 F G x .nop env (some (lo, m)) = kSl3 x lo (some (none, m)) := rfl
theorem y_sl2i {n : Int} {lo : Option Int} : kSl2 F G x (.con (.int n)) env (some (lo, m)) = kSl3 x lo (some (some n, m)) := by
  unfold kSl2 partO isNop
  rw [Option.bind_some]
  simp only [Bool.false_eq_true, if_false, x_con, Option.bind_some]
theorem y_sl3 {lo hi : Option Int} : kSl3 x lo (some (hi, m)) = rt1 (slD m x lo hi) m := rfl
theorem v_slF {lo hi : Option Int} : slD m (.frz xs) lo hi = some (.lst (cutD xs lo hi)) := rfl
theorem v_slL {lo hi : Option Int} : slD m (.lst xs) lo hi = some (.lst (cutD xs lo hi)) := rfl
theorem v_slT {lo hi : Option Int} : slD m (.tup xs) lo hi = some (.tup (cutD xs lo hi)) := rfl
theorem comp_map {te : Env → M → Option (D × M)} (f : D → D) (l : List D) (h : ∀ x, x ∈ l → ∃ e', bindTg m t x env = some e' ∧ te e' m = some (f x, m)) : compL t env te l m = some (l.map f, m) := by
  induction l with
  | nil => rfl
  | cons d r ih =>
    obtain ⟨e', h1, h2⟩ := h d List.mem_cons_self
    rw [compL, h1, Option.bind_some, h2, Option.bind_some, ih fun x hx => h x (List.mem_cons_of_mem _ hx)]
    rfl
theorem comp_none {tc te : Env → M → Option (D × M)} (l : List D) (h : ∀ x, x ∈ l → ∃ e', bindTg m t x env = some e' ∧ tc e' m = some (.bl false, m)) : compLI t env tc te l m = some ([], m) := by
  induction l with
  | nil => rfl
  | cons d r ih =>
    obtain ⟨e', h1, h2⟩ := h d List.mem_cons_self
    rw [compLI, h1, Option.bind_some, h2, Option.bind_some]
    exact ih fun x hx => h x (List.mem_cons_of_mem _ hx)
theorem y_lcomp {te : Env → M → Option (D × M)} : compL t env te [] m = some ([], m) := rfl
theorem y_for0 {tb : Env → M → R} : forL t tb [] env m = some (.nx, env, m) := rfl
theorem rgOk_of {n : Int} (h0 : 0 ≤ n) (h1 : n < 2 ^ 62) : rgOk n = true := by simp only [rgOk, Bool.and_eq_true, decide_eq_true_eq]; omega
/-- a loop over a list of values, by an invariant -/
theorem for_ok {tb : Env → M → R} (I : Nat → Env → M → Prop) (l : List D) (env : Env) (m : M) (h0 : I 0 env m)
    (hs : ∀ i (h : i < l.length) env m, I i env m → ∃ e' env' m', bindTg m t l[i] env = some e' ∧ tb e' m = some (.nx, env', m') ∧ I (i + 1) env' m') :
    ∃ env' m', forL t tb l env m = some (.nx, env', m') ∧ I l.length env' m' := by
  suffices ∀ (r : List D) (i : Nat) (env : Env) (m : M), i + r.length = l.length → l.drop i = r → I i env m → ∃ env' m', forL t tb r env m = some (.nx, env', m') ∧ I l.length env' m' from this l 0 env m (by simp) rfl h0
  intro r
  induction r with
  | nil => intro i env m hi _ hI; exact ⟨env, m, rfl, by simp at hi; rw [← hi]; exact hI⟩
  | cons d r ih =>
    intro i env m hi hd hI
    have hlt : i < l.length := by simp at hi; omega
    have hdd : l[i] = d ∧ l.drop (i + 1) = r := by
      rw [List.drop_eq_getElem_cons hlt] at hd
      injection hd with a b
      exact ⟨a, b⟩
    obtain ⟨e', env', m', hb, ht, hI'⟩ := hs i hlt env m hI
    rw [hdd.1] at hb
    obtain ⟨env2, m2, h2, h3⟩ := ih (i + 1) env' m' (by simp at hi; omega) hdd.2 hI'
    refine ⟨env2, m2, ?_, h3⟩
    rw [forL, hb, Option.bind_some, ht, Option.bind_some]
    exact h2
/-- a comprehension, by an invariant -/
theorem comp_ok {te : Env → M → Option (D × M)} (I : Nat → List D → M → Prop) (l : List D) (env : Env) (m : M) (h0 : I 0 [] m)
    (hs : ∀ i (h : i < l.length) acc m, I i acc m → ∃ e' v m', bindTg m t l[i] env = some e' ∧ te e' m = some (v, m') ∧ I (i + 1) (acc ++ [v]) m') :
    ∃ vs m', compL t env te l m = some (vs, m') ∧ I l.length vs m' := by
  suffices ∀ (r : List D) (i : Nat) (acc : List D) (m : M), i + r.length = l.length → l.drop i = r → I i acc m → ∃ vs m', compL t env te r m = some (vs, m') ∧ I l.length (acc ++ vs) m' by
    simpa using this l 0 [] m (by simp) rfl h0
  intro r
  induction r with
  | nil => intro i acc m hi _ hI; exact ⟨[], m, rfl, by simp at hi; rw [← hi]; simpa using hI⟩
  | cons d r ih =>
    intro i acc m hi hd hI
    have hlt : i < l.length := by simp at hi; omega
    have hdd : l[i] = d ∧ l.drop (i + 1) = r := by
      rw [List.drop_eq_getElem_cons hlt] at hd
      injection hd with a b
      exact ⟨a, b⟩
    obtain ⟨e', v, m', hb, ht, hI'⟩ := hs i hlt acc m hI
    rw [hdd.1] at hb
    obtain ⟨vs, m2, h2, h3⟩ := ih (i + 1) (acc ++ [v]) m' (by simp at hi; omega) hdd.2 hI'
    refine ⟨v :: vs, m2, ?_, by simpa using h3⟩
    rw [compL, hb, Option.bind_some, ht, Option.bind_some, h2]
    rfl
theorem rangeD_len {lo : Int} {n : Nat} : (rangeD lo n).length = n := by simp [rangeD]
theorem rangeD_get {lo : Int} {n i : Nat} {h : i < (rangeD lo n).length} : (rangeD lo n)[i] = .int (lo + (i : Int)) := by simp [rangeD]
/-- a loop that gives back the first answer -/
theorem for_first {tb : Env → M → R} (f : D → Option D) (I : Env → Prop) : ∀ (l : List D) (env : Env), I env →
    (∀ x, x ∈ l → ∀ env, I env → ∃ e', bindTg m t x env = some e' ∧ match f x with
      | none => ∃ env', tb e' m = some (.nx, env', m) ∧ I env'
      | some v => ∃ env', tb e' m = some (.rt v, env', m)) →
    match l.findSome? f with
      | none => ∃ env', forL t tb l env m = some (.nx, env', m) ∧ I env'
      | some v => ∃ env', forL t tb l env m = some (.rt v, env', m) := by
  intro l
  induction l with
  | nil => intro env h _; exact ⟨env, rfl, h⟩
  | cons x l ih =>
    intro env h hs
    obtain ⟨e', hb, hx⟩ := hs x List.mem_cons_self env h
    rw [List.findSome?_cons]
    cases hf : f x with
    | some v =>
      rw [hf] at hx
      obtain ⟨env', ht⟩ := hx
      exact ⟨env', by rw [forL, hb, Option.bind_some, ht, Option.bind_some]⟩
    | none =>
      rw [hf] at hx
      obtain ⟨env', ht, h'⟩ := hx
      have ih := ih env' h' fun y hy => hs y (List.mem_cons_of_mem _ hy)
      have e : forL t tb (x :: l) env m = forL t tb l env' m := by rw [forL, hb, Option.bind_some, ht, Option.bind_some]
      rw [e]
      exact ih
def kPart (r : O1) : Option (Option Int × M) := r.bind fun p => match p.1 with
  | .int i => some (some i, p.2)
  | _ => none
theorem y_part {n : Int} : kPart (some (.int n, m)) = some (some n, m) := rfl
theorem y_sl1v {j : Nat} : kSl1 F G (.var j) c env (some (x, m)) = kSl2 F G x c env (kPart (evE F G (.var j) env m)) := rfl
theorem y_sl1b : kSl1 F G (.bin op a b) c env (some (x, m)) = kSl2 F G x c env (kPart (evE F G (.bin op a b) env m)) := rfl
theorem y_sl1n : kSl1 F G (.neg a) c env (some (x, m)) = kSl2 F G x c env (kPart (evE F G (.neg a) env m)) := rfl
theorem y_sl2v {j : Nat} {lo : Option Int} : kSl2 F G x (.var j) env (some (lo, m)) = kSl3 x lo (kPart (evE F G (.var j) env m)) := rfl
theorem y_sl2b {lo : Option Int} : kSl2 F G x (.bin op a b) env (some (lo, m)) = kSl3 x lo (kPart (evE F G (.bin op a b) env m)) := rfl
theorem y_sl2n {lo : Option Int} : kSl2 F G x (.neg a) env (some (lo, m)) = kSl3 x lo (kPart (evE F G (.neg a) env m)) := rfl
theorem v_isTT : isiD (.tup xs) .tuple = some true := rfl
theorem v_isTI : isiD (.tup xs) .int = some false := rfl
theorem v_isTB : isiD (.tup xs) .bool = some false := rfl
theorem v_isTS : isiD (.tup xs) .str = some false := rfl
theorem v_isIT {n : Int} : isiD (.int n) .tuple = some false := rfl
theorem v_isII {n : Int} : isiD (.int n) .int = some true := rfl
theorem v_isIB {n : Int} : isiD (.int n) .bool = some false := rfl
theorem v_isIS {n : Int} : isiD (.int n) .str = some false := rfl
theorem v_isBT : isiD (.bl bb) .tuple = some false := rfl
theorem v_isBI : isiD (.bl bb) .int = some true := rfl
theorem v_isBB : isiD (.bl bb) .bool = some true := rfl
theorem v_isBS : isiD (.bl bb) .str = some false := rfl
theorem v_isST {z : Str} : isiD (.str z) .tuple = some false := rfl
theorem v_isSI {z : Str} : isiD (.str z) .int = some false := rfl
theorem v_isSB {z : Str} : isiD (.str z) .bool = some false := rfl
theorem v_isSS {z : Str} : isiD (.str z) .str = some true := rfl
theorem v_isN {q : Ty} : isiD .non q = some false := by cases q <;> rfl
end
/-! ## texts, strict zip, while -/
section
variable (F : Fn) (G : List D)
def kRev (r : O1) : O1 := r.bind fun p => rt1 (revD p.2 p.1) p.2
def kJoin2 (x : D) (r : O1) : O1 := r.bind fun q => rt1 (joinD q.2 x q.1) q.2
def kJoin1 (b : E) (env : Env) (r : O1) : O1 := r.bind fun p => kJoin2 p.1 (evE F G b env p.2)
def kFmt (r : O1) : O1 := r.bind fun p => rt1 (txtD p.1) p.2
def rtS (o : Option Str) (m : M) : O1 := o.map fun d => (.str d, m)
def kFstr (r : OA) : O1 := r.bind fun p => rtS (gluD Str.empty p.1) p.2
def kZipS2 (x : D) (r : O1) : OA := r.bind fun q => rtL (zipSD x q.1) q.2
def kZipS1 (b : E) (env : Env) (r : O1) : OA := r.bind fun p => kZipS2 p.1 (evE F G b env p.2)
end
section
variable {F : Fn} {G : List D} {a b : E} {as : Es} {env : Env} {m : M} {x y : D} {xs ys : List D}
theorem x_rev : evE F G (.rev a) env m = kRev (evE F G a env m) := by rw [evE]; rfl
theorem x_join : evE F G (.join a b) env m = kJoin1 F G b env (evE F G a env m) := by rw [evE]; rfl
theorem x_fmt : evE F G (.fmt a) env m = kFmt (evE F G a env m) := by rw [evE]; rfl
theorem x_fstr : evE F G (.fstr as) env m = kFstr (evA F G as env m) := by rw [evE]; rfl
theorem x_zipS : evI F G (.zipS a b) env m = kZipS1 F G b env (evE F G a env m) := by rw [evI]; rfl
theorem y_rev : kRev (some (x, m)) = rt1 (revD m x) m := rfl
theorem y_join1 : kJoin1 F G b env (some (x, m)) = kJoin2 x (evE F G b env m) := rfl
theorem y_join2 : kJoin2 x (some (y, m)) = rt1 (joinD m x y) m := rfl
theorem y_fmt : kFmt (some (x, m)) = rt1 (txtD x) m := rfl
theorem y_fstr : kFstr (some (xs, m)) = rtS (gluD Str.empty xs) m := rfl
theorem y_rtS {z : Str} : rtS (some z) m = some (.str z, m) := rfl
theorem y_zipS1 : kZipS1 F G b env (some (x, m)) = kZipS2 x (evE F G b env m) := rfl
theorem y_zipS2 : kZipS2 x (some (y, m)) = rtL (zipSD x y) m := rfl
theorem v_zipST (h : xs.length = ys.length) : zipSD (.tup xs) (.tup ys) = some (List.zipWith (fun a b => .tup [a, b]) xs ys) := if_pos h
theorem v_slS {z : Str} {lo hi : Option Int} (h : z.length ≤ lim) : slD m (.str z) lo hi = some (.str (cutT z lo hi)) := (if_pos h : (if z.length ≤ lim then some (D.str (cutT z lo hi)) else none) = _)
theorem v_revS {z : Str} (h : z.length ≤ lim) : revD m (.str z) = some (.str (revT z)) := (if_pos h : (if z.length ≤ lim then some (D.str (revT z)) else none) = _)
theorem v_revL : revD m (.lst xs) = some (.lst xs.reverse) := rfl
theorem v_pow2 {n k : Int} (h : powOk2 n k = true) : bopD m .pow (.int n) (.int k) = some (.int (n ^ k.toNat)) := by
  show (if powOk n k = true then some (D.int (n ^ k.toNat)) else if powOk2 n k then some (D.int (n ^ k.toNat)) else none) = _
  rw [if_pos h]; split <;> rfl
theorem v_catS {z w : Str} (h : z.length + w.length ≤ lim) : bopD m .add (.str z) (.str w) = some (.str (z ++ w)) := (if_pos h : (if z.length + w.length ≤ lim then some (D.str (z ++ w)) else none) = _)
theorem while_ok {tc : Env → M → Option (D × M)} {tb : Env → M → R} (I : Nat → Env → M → Prop) (P : R → Prop)
    (st : ∀ k env m, I k env m → (∃ m1, tc env m = some (.bl false, m1) ∧ P (some (.nx, env, m1))) ∨ (∃ m1 e2 m2, tc env m = some (.bl true, m1) ∧ tb env m1 = some (.nx, e2, m2) ∧ ∃ j, j < k ∧ I j e2 m2) ∨
      ∃ m1 d e2 m2, tc env m = some (.bl true, m1) ∧ tb env m1 = some (.rt d, e2, m2) ∧ P (some (.rt d, e2, m2))) :
    ∀ (k n : Nat) (env : Env) (m : M), I k env m → k < n → P (whileL tc tb n env m) := by
  intro k
  induction k using Nat.strongRecOn with
  | ind k ih =>
    intro n env m hI hk
    match n, hk with
    | n + 1, hk =>
      rcases st k env m hI with ⟨m1, h1, h2⟩ | ⟨m1, e2, m2, h1, h2, j, hj, hI'⟩ | ⟨m1, d, e2, m2, h1, h2, h3⟩
      · rw [whileL, h1]; exact h2
      · rw [whileL, h1]
        show P ((tb env m1).bind _)
        rw [h2]
        exact ih j hj n e2 m2 hI' (by omega)
      · rw [whileL, h1]
        show P ((tb env m1).bind _)
        rw [h2]
        exact h3
end
end Pv

namespace Pv
open PySem
/-! ## equality of data -/
theorem lays_int : ∀ {l : List Int}, PyData.canLayAll0 (l.map PyData.int) = true
  | [] => by simp [PyData.canLayAll0]
  | d :: ds => by rw [List.map_cons, PyData.canLayAll0, lays_int, PyData.canLay0]; rfl
theorem pures_all {l : List D} : pures l = true ↔ ∀ x ∈ l, pure_ x = true := by
  induction l with
  | nil => simp [pures]
  | cons x r ih => simp [pures, ih]
theorem pures_int {l : List Int} : pures (l.map .int) = true := by
  rw [pures_all]; intro x hx; obtain ⟨c, _, rfl⟩ := List.mem_map.mp hx; rfl
theorem toPs_int {l : List Int} : toPs (l.map .int) = l.map PyData.int := by
  induction l with
  | nil => rfl
  | cons x r ih => simp [toPs, toP, ih]
theorem eqv_ints : ∀ {l k : List Int}, PyData.eqvAll (l.map PyData.int) (k.map PyData.int) = decide (l = k)
  | [], [] => by simp [PyData.eqvAll]
  | [], _ :: _ => by simp [PyData.eqvAll]
  | _ :: _, [] => by simp [PyData.eqvAll]
  | x :: l, y :: k => by
    simp only [List.map_cons, PyData.eqvAll, PyData.eqv, eqv_ints, List.cons.injEq]
    rw [Bool.eq_iff_iff]; simp
theorem depth_ints {l : List Int} : (PyData.list (l.map PyData.int)).depth ≤ 64 := by
  have : ∀ l : List Int, PyData.depthAll (l.map PyData.int) ≤ 2 := by
    intro l
    induction l with
    | nil => simp [PyData.depthAll]
    | cons x r ih => simp [PyData.depthAll, PyData.depth]; omega
  have := this l
  simp [PyData.depth]; omega
theorem intsD_int : ∀ {l : List Int}, intsD (l.map .int) = some l
  | [] => rfl
  | n :: l => by rw [List.map_cons, intsD, intsD_int]; rfl
theorem eq_lints {m : M} {l k : List Int} : eqD m (.lst (l.map .int)) (.lst (k.map .int)) = some (decide (l = k)) := by
  have e : eqOk (.lst (l.map .int)) (.lst (k.map .int)) = true := by
    have d := depth_ints (l := l)
    simp only [eqOk, pure_, pures_int, toP, toPs_int, PyData.canLay0, lays_int, Bool.true_and, decide_eq_true_eq]
    omega
  show (if eqOk (.lst (l.map .int)) (.lst (k.map .int)) = true then some (PyData.eqv (toP (.lst (l.map .int))) (toP (.lst (k.map .int)))) else none) = _
  rw [if_pos e]
  simp only [toP, toPs_int, PyData.eqv, eqv_ints]
theorem comp_filter {t : Tg} {env : Env} {m : M} {tc te : Env → M → Option (D × M)} (c : D → Bool) (f : D → D) (l : List D) (h : ∀ x, x ∈ l → ∃ e', bindTg m t x env = some e' ∧ tc e' m = some (.bl (c x), m) ∧ (c x = true → te e' m = some (f x, m))) : compLI t env tc te l m = some ((l.filter c).map f, m) := by
  induction l with
  | nil => rfl
  | cons d r ih =>
    obtain ⟨e', h1, h2, h3⟩ := h d List.mem_cons_self
    have ih := ih fun x hx => h x (List.mem_cons_of_mem _ hx)
    cases hc : c d with
    | true =>
      rw [compLI, h1, Option.bind_some, h2, Option.bind_some, hc]
      simp only [h3 hc, Option.bind_some, ih, List.filter_cons, hc, if_true, List.map_cons]
    | false =>
      rw [compLI, h1, Option.bind_some, h2, Option.bind_some, hc]
      simp only [ih, List.filter_cons, hc, Bool.false_eq_true, if_false]
theorem in_ints {m : M} {l : List Nat} {k : Nat} : inD m (.int (k : Int)) (.tup (l.map fun i : Nat => D.int (i : Int))) = some (decide (k ∈ l)) := by
  have h : (l.map fun i : Nat => D.int (i : Int)).all flatD = true := by simp [flatD]
  show (if (flatD (.int (k : Int)) && (l.map fun i : Nat => D.int (i : Int)).all flatD) = true then some ((l.map fun i : Nat => D.int (i : Int)).any fun z => eqF z (.int (k : Int))) else none) = _
  rw [h, if_pos (by rfl)]
  congr 1
  rw [Bool.eq_iff_iff]
  simp [eqF]
  constructor
  · rintro ⟨x, hx, e⟩; rw [← (by omega : x = k)]; exact hx
  · intro h; exact ⟨k, h, rfl⟩
end Pv

namespace Lw
open PySem Pv
def l_alike_0 : Ss :=
  (.cons (.ife (.not_ (.callP 0 (.cons (.var 2) (.cons (.var 3) .nil)))) (.cons (.ret (.con (.bl false))) .nil) .nil) .nil)
def b_alike : Ss :=
  (.cons (.ife (.and_ (.isi (.var 0) .tuple) (.and1 (.isi (.var 1) .tuple))) (.cons (.ife (.cmp .ne (.bi .len (.cons (.var 0) .nil)) (.bi .len (.cons (.var 1) .nil))) (.cons (.ret (.con (.bl false))) .nil) .nil) (.cons (.for_ (.tp (.cons (.nm 2) (.cons (.nm 3) .nil))) (.zipS (.var 0) (.var 1)) l_alike_0) (.cons (.ret (.con (.bl true))) .nil))) .nil) (.cons (.ife (.or_ (.isi (.var 0) .tuple) (.or1 (.isi (.var 1) .tuple))) (.cons (.ret (.con (.bl false))) .nil) .nil) (.cons (.ife (.or_ (.cmp .ne (.isi (.var 0) .bool) (.isi (.var 1) .bool)) (.or1 (.cmp .ne (.isi (.var 0) .str) (.isi (.var 1) .str)))) (.cons (.ret (.con (.bl false))) .nil) .nil) (.cons (.ife (.or_ (.isN (.var 0)) (.or1 (.isN (.var 1)))) (.cons (.ret (.and_ (.isN (.var 0)) (.and1 (.isN (.var 1))))) .nil) .nil) (.cons (.ret (.cmp .eq (.var 0) (.var 1))) .nil)))))
def f_alike : FnD := ⟨"alike", ["one", "other"], ["one", "other", "left", "right"], b_alike⟩
def b__law_deck : Ss :=
  (.cons (.asg (.nm 1) (.bin .add (.bi .list (.cons (.sl (.var 0) .nop (.con (.int 63))) .nil)) (.bin .mul (.lst (.cons (.con (.int 0)) .nil)) (.bi .int (.cons (.cmp .eq (.bi .len (.cons (.var 0) .nil)) (.con (.int 0))) .nil))))) (.cons (.ret (.box (.lst (.cons (.var 1) (.cons (.con (.int 0)) (.cons (.box (.comp [("_law_cell", 2)] (.nm 2) (.seq (.var 1)) (.bin .mul (.var 2) (.bi .int (.cons (.cmp .ge (.var 2) (.bin .pow (.con (.int 10)) (.con (.int 18)))) .nil))))) .nil)))))) .nil))
def f__law_deck : FnD := ⟨"_law_deck", ["_law_script"], ["_law_script", "_law_cells", "_law_cell"], b__law_deck⟩
def b__law_pick : Ss :=
  (.cons (.asg (.up (.cons (.nm 5) (.cons (.nm 6) (.cons (.nm 7) .nil)))) (.var 0)) (.cons (.asg (.nm 2) (.bin .mod (.var 6) (.bi .len (.cons (.var 5) .nil)))) (.cons (.setix (.var 0) (.con (.int 1)) (.bin .add (.var 6) (.con (.int 1)))) (.cons (.ife (.cmp .gt (.ix (.var 7) (.var 2)) (.con (.int 0))) (.cons (.asg (.nm 8) (.bin .mod (.ix (.var 7) (.var 2)) (.var 1))) (.cons (.setix (.var 7) (.var 2) (.bin .fdiv (.ix (.var 7) (.var 2)) (.var 1))) (.cons (.ret (.var 8)) .nil))) .nil) (.cons (.asg (.nm 3) (.bin .mod (.bin .mul (.bin .add (.bin .mod (.ix (.var 5) (.var 2)) (.con (.int 2147483647))) (.con (.int 1))) (.bin .add (.bin .add (.bin .mul (.con (.int 1299709)) (.var 6)) (.con (.int 15485863))) (.var 2))) (.con (.int 2147483629)))) (.cons (.asg (.nm 4) (.bin .add (.bin .mod (.bin .fdiv (.ix (.var 5) (.var 2)) (.con (.int 2147483647))) (.con (.int 2147483647))) (.con (.int 3)))) (.cons (.asg (.nm 4) (.bin .mod (.bin .mul (.var 4) (.bin .add (.con (.int 49979687)) (.bin .mul (.con (.int 86028121)) (.var 6)))) (.con (.int 2147483587)))) (.cons (.asg (.nm 3) (.bin .mod (.bin .add (.bin .add (.bin .mul (.var 3) (.var 3)) (.bin .mul (.con (.int 32452843)) (.var 4))) (.var 6)) (.con (.int 2147483579)))) (.cons (.asg (.nm 4) (.bin .mod (.bin .add (.bin .add (.bin .mul (.var 4) (.var 4)) (.bin .mul (.con (.int 67867967)) (.var 3))) (.var 2)) (.con (.int 2147483563)))) (.cons (.ret (.bin .mod (.bin .mod (.bin .add (.bin .mul (.var 3) (.con (.int 2147483549))) (.var 4)) (.con (.int 4611686018427387847))) (.var 1))) .nil))))))))))
def f__law_pick : FnD := ⟨"_law_pick", ["_law_deck_here", "_law_many"], ["_law_deck_here", "_law_many", "_law_at", "_law_low", "_law_high", "_law_cells", "_law_drawn", "_law_left", "_law_digit"], b__law_pick⟩
def l__law_same_0 : Ss :=
  (.cons (.asg (.tp (.cons (.nm 3) (.cons (.nm 4) .nil))) (.pop (.var 2))) (.cons (.ife (.and_ (.isi (.var 3) .tuple) (.and1 (.isi (.var 4) .tuple))) (.cons (.ife (.cmp .ne (.bi .len (.cons (.var 3) .nil)) (.bi .len (.cons (.var 4) .nil))) (.cons (.ret (.con (.bl false))) .nil) .nil) (.cons (.asg (.nm 2) (.box (.bin .add (.var 2) (.comp [("_law_k", 5)] (.nm 5) (.rng1 (.bi .len (.cons (.var 3) .nil))) (.tup (.cons (.ix (.var 3) (.var 5)) (.cons (.ix (.var 4) (.var 5)) .nil))))))) .nil)) (.cons (.ife (.or_ (.isN (.var 3)) (.or1 (.isN (.var 4)))) (.cons (.ife (.or_ (.notN (.var 3)) (.or1 (.notN (.var 4)))) (.cons (.ret (.con (.bl false))) .nil) .nil) .nil) (.cons (.ife (.or_ (.cmp .ne (.isi (.var 3) .bool) (.isi (.var 4) .bool)) (.or1 (.cmp .ne (.isi (.var 3) .str) (.isi (.var 4) .str)))) (.cons (.ret (.con (.bl false))) .nil) (.cons (.ife (.or_ (.isi (.var 3) .tuple) (.or_ (.isi (.var 4) .tuple) (.or1 (.cmp .ne (.var 3) (.var 4))))) (.cons (.ret (.con (.bl false))) .nil) .nil) .nil)) .nil)) .nil)) .nil))
def b__law_same : Ss :=
  (.cons (.asg (.nm 2) (.box (.lst (.cons (.tup (.cons (.var 0) (.cons (.var 1) .nil))) .nil)))) (.cons (.while_ (.cmp .ne (.var 2) (.lst .nil)) l__law_same_0) (.cons (.ret (.con (.bl true))) .nil)))
def f__law_same : FnD := ⟨"_law_same", ["_law_one", "_law_other"], ["_law_one", "_law_other", "_law_heap", "_law_left", "_law_right", "_law_k"], b__law_same⟩
def b__law_simple : Ss :=
  (.cons (.asg (.nm 1) (.call 2 (.cons (.var 0) (.cons (.con (.int 8)) .nil)))) (.cons (.ife (.cmp .eq (.var 1) (.con (.int 0))) (.cons (.ret (.con .non)) .nil) .nil) (.cons (.ife (.cmp .lt (.var 1) (.con (.int 3))) (.cons (.ret (.cmp .eq (.var 1) (.con (.int 1)))) .nil) .nil) (.cons (.ife (.cmp .eq (.var 1) (.con (.int 3))) (.cons (.ret (.call 2 (.cons (.var 0) (.cons (.con (.int 2)) .nil)))) .nil) .nil) (.cons (.ife (.cmp .eq (.var 1) (.con (.int 4))) (.cons (.ret (.bin .sub (.call 2 (.cons (.var 0) (.cons (.bin .pow (.con (.int 10)) (.con (.int 10))) .nil))) (.bin .mul (.con (.int 5)) (.bin .pow (.con (.int 10)) (.con (.int 9)))))) .nil) .nil) (.cons (.ife (.cmp .eq (.var 1) (.con (.int 5))) (.cons (.ret (.bin .add (.bin .pow (.bin .mul (.bin .pow (.con (.int 10)) (.con (.int 64))) (.bin .add (.con (.int 1)) (.call 2 (.cons (.var 0) (.cons (.bin .pow (.con (.int 10)) (.con (.int 9))) .nil))))) (.con (.int 5))) (.call 2 (.cons (.var 0) (.cons (.bin .pow (.con (.int 10)) (.con (.int 9))) .nil))))) .nil) .nil) (.cons (.asg (.nm 2) (.con (.str " !\"#$&'()*+,-./0123456789:;<=>?@ABCDEFGHIJKLMNOPQRSTUVWXYZ[\\]^_`abcdefghijklmnopqrstuvwxyz{|}~"))) (.cons (.ret (.join (.con (.str "")) (.comp [("_law_k", 3)] (.nm 3) (.rng1 (.call 2 (.cons (.var 0) (.cons (.ix (.lst (.cons (.con (.int 2)) (.cons (.con (.int 13)) .nil))) (.bin .sub (.var 1) (.con (.int 6)))) .nil)))) (.ix (.var 2) (.call 2 (.cons (.var 0) (.cons (.con (.int 94)) .nil))))))) .nil))))))))
def f__law_simple : FnD := ⟨"_law_simple", ["_law_deck_here"], ["_law_deck_here", "_law_way", "_law_signs", "_law_k"], b__law_simple⟩
def b__law_thing : Ss :=
  (.cons (.ife (.or_ (.cmp .lt (.var 1) (.con (.int 1))) (.or1 (.and_ (.cmp .lt (.var 2) (.con (.int 2))) (.and1 (.cmp .eq (.call 2 (.cons (.var 0) (.cons (.con (.int 2)) .nil))) (.con (.int 0))))))) (.cons (.ret (.call 4 (.cons (.var 0) .nil))) .nil) .nil) (.cons (.asg (.nm 3) (.call 2 (.cons (.var 0) (.cons (.con (.int 5)) .nil)))) (.cons (.ret (.bi .tuple (.cons (.comp [("_law_k", 4)] (.nm 4) (.rng1 (.bi .min2 (.cons (.var 3) (.cons (.var 2) .nil)))) (.call 5 (.cons (.var 0) (.cons (.bin .sub (.bin .sub (.var 1) (.con (.int 1))) (.call 2 (.cons (.var 0) (.cons (.con (.int 3)) .nil)))) (.cons (.bin .fdiv (.var 2) (.var 3)) .nil))))) .nil))) .nil)))
def f__law_thing : FnD := ⟨"_law_thing", ["_law_deck_here", "_law_deep", "_law_room"], ["_law_deck_here", "_law_deep", "_law_room", "_law_many", "_law_k"], b__law_thing⟩
def l__law_places_0 : Ss :=
  (.cons (.asg (.tp (.cons (.nm 3) (.cons (.nm 4) .nil))) (.pop (.var 1))) (.cons (.ex (.append (.var 2) (.tup (.cons (.var 3) (.cons (.var 4) .nil))))) (.cons (.ife (.isi (.var 4) .tuple) (.cons (.asg (.nm 1) (.box (.bin .add (.var 1) (.comp [("_law_k", 5)] (.nm 5) (.rng1 (.bi .len (.cons (.var 4) .nil))) (.tup (.cons (.bin .add (.var 3) (.tup (.cons (.var 5) .nil))) (.cons (.ix (.var 4) (.var 5)) .nil))))))) .nil) .nil) .nil)))
def b__law_places : Ss :=
  (.cons (.asg (.nm 1) (.box (.lst (.cons (.tup (.cons (.tup .nil) (.cons (.var 0) .nil))) .nil)))) (.cons (.asg (.nm 2) (.box (.lst .nil))) (.cons (.while_ (.cmp .ne (.var 1) (.lst .nil)) l__law_places_0) (.cons (.ret (.var 2)) .nil))))
def f__law_places : FnD := ⟨"_law_places", ["_law_thing_here"], ["_law_thing_here", "_law_heap", "_law_found", "_law_place", "_law_one", "_law_k"], b__law_places⟩
def b__law_set : Ss :=
  (.cons (.ife (.cmp .eq (.var 1) (.tup .nil)) (.cons (.ret (.var 2)) .nil) .nil) (.cons (.asg (.nm 3) (.ix (.var 1) (.con (.int 0)))) (.cons (.ret (.bin .add (.bin .add (.sl (.var 0) .nop (.var 3)) (.tup (.cons (.callP 7 (.cons (.ix (.var 0) (.var 3)) (.cons (.sl (.var 1) (.con (.int 1)) .nop) (.cons (.var 2) .nil)))) .nil))) (.sl (.var 0) (.bin .add (.var 3) (.con (.int 1))) .nop))) .nil)))
def f__law_set : FnD := ⟨"_law_set", ["_law_thing_here", "_law_place", "_law_new"], ["_law_thing_here", "_law_place", "_law_new", "_law_at"], b__law_set⟩
def b__law_beside : Ss :=
  (.cons (.asg (.nm 2) (.call 2 (.cons (.var 0) (.cons (.con (.int 5)) .nil)))) (.cons (.ife (.cmp .eq (.var 2) (.con (.int 0))) (.cons (.ret (.tup (.cons (.var 1) .nil))) .nil) .nil) (.cons (.ife (.isi (.var 1) .tuple) (.cons (.ife (.and_ (.cmp .eq (.var 2) (.con (.int 1))) (.and1 (.cmp .eq (.bi .len (.cons (.var 1) .nil)) (.con (.int 1))))) (.cons (.ret (.ix (.var 1) (.con (.int 0)))) .nil) .nil) (.cons (.ret (.bin .add (.var 1) (.tup (.cons (.call 4 (.cons (.var 0) .nil)) .nil)))) .nil)) .nil) (.cons (.ife (.isi (.var 1) .bool) (.cons (.ret (.ix (.lst (.cons (.bi .int (.cons (.var 1) .nil)) (.cons (.not_ (.var 1)) .nil))) (.bin .mod (.var 2) (.con (.int 2))))) .nil) .nil) (.cons (.ife (.isi (.var 1) .int) (.cons (.ret (.ix (.lst (.cons (.bin .add (.var 1) (.con (.int 1))) (.cons (.cmp .eq (.var 1) (.con (.int 1))) (.cons (.neg (.var 1)) (.cons (.con (.int 0)) .nil))))) (.bin .sub (.var 2) (.con (.int 1))))) .nil) .nil) (.cons (.ife (.isi (.var 1) .str) (.cons (.ret (.ix (.lst (.cons (.bin .add (.var 1) (.con (.str "a"))) (.cons (.sl (.var 1) .nop (.neg (.con (.int 1)))) (.cons (.rev (.var 1)) (.cons (.con .non) .nil))))) (.bin .sub (.var 2) (.con (.int 1))))) .nil) .nil) (.cons (.ret (.ix (.lst (.cons (.tup .nil) (.cons (.con (.bl false)) (.cons (.con (.int 0)) (.cons (.con (.str "")) .nil))))) (.bin .sub (.var 2) (.con (.int 1))))) .nil)))))))
def f__law_beside : FnD := ⟨"_law_beside", ["_law_deck_here", "_law_one"], ["_law_deck_here", "_law_one", "_law_way"], b__law_beside⟩
def l__law_around_0 : Ss :=
  (.cons (.asg (.nm 0) (.tup (.cons (.var 0) .nil))) .nil)
def b__law_around : Ss :=
  (.cons (.for_ (.nm 2) (.rng1 (.var 1)) l__law_around_0) (.cons (.ret (.var 0)) .nil))
def f__law_around : FnD := ⟨"_law_around", ["_law_thing_here", "_law_many"], ["_law_thing_here", "_law_many", "_law_k"], b__law_around⟩
def b__law_anew : Ss :=
  (.cons (.ife (.not_ (.isi (.var 0) .tuple)) (.cons (.ret (.var 0)) .nil) .nil) (.cons (.ret (.bi .tuple (.cons (.comp [("_law_one", 1)] (.nm 1) (.seq (.var 0)) (.callP 10 (.cons (.var 1) .nil))) .nil))) .nil))
def f__law_anew : FnD := ⟨"_law_anew", ["_law_thing_here"], ["_law_thing_here", "_law_one"], b__law_anew⟩
def l_law_0 : Ss :=
  (.cons (.asg (.nm 12) (.callP 0 (.cons (.var 9) (.cons (.var 10) .nil)))) (.cons (.ife (.or_ (.not_ (.isi (.var 12) .bool)) (.or1 (.cmp .ne (.var 12) (.var 11)))) (.cons (.ret (.con (.bl false))) .nil) .nil) .nil))
def b_law : Ss :=
  (.cons (.asg (.nm 1) (.call 1 (.cons (.var 0) .nil))) (.cons (.asg (.nm 2) (.call 2 (.cons (.var 1) (.cons (.con (.int 4)) .nil)))) (.cons (.asg (.nm 3) (.call 2 (.cons (.var 1) (.cons (.con (.int 1000)) .nil)))) (.cons (.asg (.nm 4) (.bin .mul (.con (.int 250)) (.bi .int (.cons (.cmp .eq (.call 2 (.cons (.var 1) (.cons (.con (.int 8)) .nil))) (.con (.int 0))) .nil)))) (.cons (.asg (.nm 5) (.call 5 (.cons (.var 1) (.cons (.con (.int 8)) (.cons (.con (.int 40)) .nil))))) (.cons (.asg (.nm 6) (.call 5 (.cons (.var 1) (.cons (.con (.int 8)) (.cons (.con (.int 40)) .nil))))) (.cons (.ife (.cmp .gt (.var 2) (.con (.int 0))) (.cons (.asg (.nm 8) (.call 6 (.cons (.var 5) .nil))) (.cons (.asg (.tp (.cons (.nm 13) (.cons (.nm 14) .nil))) (.ix (.var 8) (.bin .mod (.var 3) (.bi .len (.cons (.var 8) .nil))))) (.cons (.asg (.nm 6) (.callP 7 (.cons (.var 5) (.cons (.var 13) (.cons (.ix (.lst (.cons (.var 14) (.cons (.call 8 (.cons (.var 1) (.cons (.var 14) .nil))) .nil))) (.bi .int (.cons (.cmp .gt (.var 2) (.con (.int 1))) .nil))) .nil))))) .nil))) .nil) (.cons (.asg (.nm 5) (.callP 9 (.cons (.var 5) (.cons (.var 4) .nil)))) (.cons (.asg (.nm 6) (.callP 9 (.cons (.var 6) (.cons (.var 4) .nil)))) (.cons (.asg (.nm 7) (.callP 3 (.cons (.var 5) (.cons (.var 6) .nil)))) (.cons (.for_ (.tp (.cons (.nm 9) (.cons (.nm 10) (.cons (.nm 11) .nil)))) (.seq (.lst (.cons (.tup (.cons (.var 5) (.cons (.var 6) (.cons (.var 7) .nil)))) (.cons (.tup (.cons (.var 6) (.cons (.var 5) (.cons (.var 7) .nil)))) (.cons (.tup (.cons (.var 5) (.cons (.callP 10 (.cons (.var 5) .nil)) (.cons (.con (.bl true)) .nil)))) (.cons (.tup (.cons (.var 6) (.cons (.var 6) (.cons (.con (.bl true)) .nil)))) .nil)))))) l_law_0) (.cons (.ret (.con (.bl true))) .nil))))))))))))
def f_law : FnD := ⟨"law", ["_law_script"], ["_law_script", "_law_deck_here", "_law_change", "_law_where", "_law_around_here", "_law_one", "_law_other", "_law_due", "_law_places_here", "_law_left", "_law_right", "_law_told", "_law_found", "_law_place", "_law_held"], b_law⟩
theorem r_alike {F : Fn} {G : List D} {a0 a1 : D} {m : M} : runBody F G f_alike [a0, a1] m = kFn (evB F G b_alike [some a0, some a1, none, none] m) := rfl
theorem r__law_deck {F : Fn} {G : List D} {a0 : D} {m : M} : runBody F G f__law_deck [a0] m = kFn (evB F G b__law_deck [some a0, none, none] m) := rfl
theorem r__law_pick {F : Fn} {G : List D} {a0 a1 : D} {m : M} : runBody F G f__law_pick [a0, a1] m = kFn (evB F G b__law_pick [some a0, some a1, none, none, none, none, none, none, none] m) := rfl
theorem r__law_same {F : Fn} {G : List D} {a0 a1 : D} {m : M} : runBody F G f__law_same [a0, a1] m = kFn (evB F G b__law_same [some a0, some a1, none, none, none, none] m) := rfl
theorem r__law_simple {F : Fn} {G : List D} {a0 : D} {m : M} : runBody F G f__law_simple [a0] m = kFn (evB F G b__law_simple [some a0, none, none, none] m) := rfl
theorem r__law_thing {F : Fn} {G : List D} {a0 a1 a2 : D} {m : M} : runBody F G f__law_thing [a0, a1, a2] m = kFn (evB F G b__law_thing [some a0, some a1, some a2, none, none] m) := rfl
theorem r__law_places {F : Fn} {G : List D} {a0 : D} {m : M} : runBody F G f__law_places [a0] m = kFn (evB F G b__law_places [some a0, none, none, none, none, none] m) := rfl
theorem r__law_set {F : Fn} {G : List D} {a0 a1 a2 : D} {m : M} : runBody F G f__law_set [a0, a1, a2] m = kFn (evB F G b__law_set [some a0, some a1, some a2, none] m) := rfl
theorem r__law_beside {F : Fn} {G : List D} {a0 a1 : D} {m : M} : runBody F G f__law_beside [a0, a1] m = kFn (evB F G b__law_beside [some a0, some a1, none] m) := rfl
theorem r__law_around {F : Fn} {G : List D} {a0 a1 : D} {m : M} : runBody F G f__law_around [a0, a1] m = kFn (evB F G b__law_around [some a0, some a1, none] m) := rfl
theorem r__law_anew {F : Fn} {G : List D} {a0 : D} {m : M} : runBody F G f__law_anew [a0] m = kFn (evB F G b__law_anew [some a0, none] m) := rfl
theorem r_law {F : Fn} {G : List D} {a0 : D} {m : M} : runBody F G f_law [a0] m = kFn (evB F G b_law [some a0, none, none, none, none, none, none, none, none, none, none, none, none, none, none] m) := rfl
def tab : List FnD := [f_alike, f__law_deck, f__law_pick, f__law_same, f__law_simple, f__law_thing, f__law_places, f__law_set, f__law_beside, f__law_around, f__law_anew, f_law]
def glo : List (Str × D) := []
theorem run_alike {G : List D} {n : Nat} : run tab G (n + 1) 0 = runBody (run tab G n) G f_alike := rfl
theorem run__law_deck {G : List D} {n : Nat} : run tab G (n + 1) 1 = runBody (run tab G n) G f__law_deck := rfl
theorem run__law_pick {G : List D} {n : Nat} : run tab G (n + 1) 2 = runBody (run tab G n) G f__law_pick := rfl
theorem run__law_same {G : List D} {n : Nat} : run tab G (n + 1) 3 = runBody (run tab G n) G f__law_same := rfl
theorem run__law_simple {G : List D} {n : Nat} : run tab G (n + 1) 4 = runBody (run tab G n) G f__law_simple := rfl
theorem run__law_thing {G : List D} {n : Nat} : run tab G (n + 1) 5 = runBody (run tab G n) G f__law_thing := rfl
theorem run__law_places {G : List D} {n : Nat} : run tab G (n + 1) 6 = runBody (run tab G n) G f__law_places := rfl
theorem run__law_set {G : List D} {n : Nat} : run tab G (n + 1) 7 = runBody (run tab G n) G f__law_set := rfl
theorem run__law_beside {G : List D} {n : Nat} : run tab G (n + 1) 8 = runBody (run tab G n) G f__law_beside := rfl
theorem run__law_around {G : List D} {n : Nat} : run tab G (n + 1) 9 = runBody (run tab G n) G f__law_around := rfl
theorem run__law_anew {G : List D} {n : Nat} : run tab G (n + 1) 10 = runBody (run tab G n) G f__law_anew := rfl
theorem run_law {G : List D} {n : Nat} : run tab G (n + 1) 11 = runBody (run tab G n) G f_law := rfl
end Lw

namespace Lw
open PySem Pv
structure Dk where
  R : List Int
  C : List Int
  k : Nat
structure Dk.Ok (s : Dk) : Prop where
  len : s.C.length = s.R.length
  pos : 0 < s.C.length
  few : s.C.length ≤ 63
def mem (s : Dk) (g : M) : M := .lst (s.R.map .int) :: .lst [.lst (s.C.map .int), .int s.k, .ref 0] :: g
theorem set1 {env : Pv.Env} {o : MO} {a b c v : D} {g : M} : setM env (o :: .lst [a, b, c] :: g) v (.ref 1) (.int 1) = some (.nx, env, o :: .lst [a, v, c] :: g) := by
  rw [v_setR (l := 1) (j := 1) rfl (by rfl)]
  rfl
theorem set0 {env : Pv.Env} {l : List Int} {v : Int} {j : Nat} {g : M} (h : j < l.length) : setM env (.lst (l.map .int) :: g) (.int v) (.ref 0) (.int (j : Int)) = some (.nx, env, .lst ((l.set j v).map .int) :: g) := by
  rw [v_setR (l := 0) (j := j) rfl (by rw [List.length_map]; exact ixAt_nat h), List.map_set]
  rfl
theorem ix0 {l : List Int} {j : Nat} {g : M} (h : j < l.length) : ixD (.lst (l.map .int) :: g) (.ref 0) (.int (j : Int)) = some (.int l[j]) := by
  rw [v_ixR (l := 0) rfl]
  exact atD_ints h
theorem up3 {env : Pv.Env} {o : MO} {a b c : D} {g : M} {ts : Tgs} : bindTg (o :: .lst [a, b, c] :: g) (.up ts) (.ref 1) env = bindTgs (o :: .lst [a, b, c] :: g) ts [a, b, c] env := v_upR rfl
theorem small_of {i : Int} (h0 : 0 ≤ i) (h1 : i < 2 ^ 64) : small i = true := by simp only [small, Bool.and_eq_true, decide_eq_true_eq]; omega
theorem mulOk_l {i j : Int} (h0 : 0 ≤ i) (h1 : i < 2 ^ 64) : mulOk i j = true := by simp only [mulOk, small_of h0 h1, Bool.true_or]
theorem pick_ok (F : Fn) (G : List D) (s : Dk) (h : s.Ok) (hk : s.k < 2 ^ 40) (many : Int) (h0 : 0 < many) (h9 : many.natAbs.log2 < 9000) (g : M) :
    ∃ d s', runBody F G f__law_pick [.ref 1, .int many] (mem s g) = some (.int d, mem s' g) ∧ 0 ≤ d ∧ d < many ∧ s'.k = s.k + 1 ∧ s'.Ok := by
  obtain ⟨j, hj, ej⟩ : ∃ j : Nat, j < s.C.length ∧ ((s.k : Int) % (s.C.length : Int)) = (j : Int) := ⟨s.k % s.C.length, Nat.mod_lt _ h.pos, by simp⟩
  have hjr : j < s.R.length := by rw [← h.len]; exact hj
  have hjf : j < 63 := Nat.lt_of_lt_of_le hj h.few
  have hc : (0 : Int) < (s.C.length : Int) := by have := h.pos; omega
  have e1 := atD_ints (l := s.C) hj
  have hd : divOk many = true := by simp [divOk, h0, h9]
  rw [r__law_pick]
  by_cases hp : 0 < s.R[j]
  · refine ⟨s.R[j] % many, ⟨s.R.set j (s.R[j] / many), s.C, s.k + 1⟩, ?_, Int.emod_nonneg _ (by omega), Int.emod_lt_of_pos _ h0, rfl, ⟨by simpa using h.len, h.pos, h.few⟩⟩
    simp -implicitDefEqProofs only [x_var, y_var, x_con, x_glob, x_bin, x_neg, x_cmp, x_chain, x_isN, x_notN, x_and, x_and1, x_or, x_or1, x_not, x_ife, x_call, x_callP, x_bi, x_isi, x_listRg, x_ix, x_sl, x_tup, x_lst, x_comp, x_compIf, x_box, x_pop, x_popAt, x_append, x_nil, x_cons, x_seq, x_rng1, x_rng2, x_zip, x_asg, x_setix, x_aug, x_ex, x_if, x_for, x_while, x_ret, x_brk, x_cont, x_bnil, x_bcons, y_rt1, y_rtB, y_bin1, y_bin2, y_cmp1, y_cmp2, y_neg, y_isN, y_notN, y_andT, y_andF, y_orT, y_orF, y_not, y_ifT, y_ifF, y_chain1, y_chain2, y_chainT, y_chainF, y_chain3, y_cons1, y_cons2, y_call, y_callP, y_bi, y_isi, y_ix1, y_ix2, y_tup0, y_tup1, y_tup2, y_tup3, y_tup4, y_lst0, y_lst1, y_lst2, y_lst3, y_lc, y_box, y_pop, y_popAt1, y_popAt2, y_append1, y_append2, y_rtL, y_seq, y_seqT, y_seqL, y_rng21, y_zip1, y_zip2, y_zipT, y_zipL, y_rtE, y_asg, y_set1, y_set2, y_set3, y_aug, y_augA, y_augS, y_ex, y_ifST, y_ifSF, y_for, y_ret, y_nx, y_rt, y_bk, y_ct, y_fnR, y_fnN, y_nm, y_tp, y_tgn, y_tgc, y_tgk, v_add, v_sub, v_eqI, v_eqS, v_eqB, v_neI, v_neS, v_neB, v_lt, v_le, v_gt, v_ge, v_lenT, v_lenL, v_lenF, v_tupL, v_tupT, v_listL, v_listT, v_intI, v_intB, v_max, v_min, v_ixT, v_ixL, v_at0, v_at1, v_at2, y_lst4, y_lst5, y_lst6, y_lst7, y_tup5, y_tup6, y_sl1, y_sl1i, y_sl2, y_sl2i, y_sl3, v_slF, v_slL, v_slT, w_0, w_1, y_part, y_sl1v, y_sl1b, y_sl1n, y_sl2v, y_sl2b, y_sl2n, v_isTT, v_isTI, v_isTB, v_isTS, v_isIT, v_isII, v_isIB, v_isIS, v_isBT, v_isBI, v_isBB, v_isBS, v_isST, v_isSI, v_isSB, v_isSS, v_isN, x_rev, x_join, x_fmt, x_fstr, x_zipS, y_rev, y_join1, y_join2, y_fmt, y_fstr, y_rtS, y_zipS1, y_zipS2, v_revL, List.getElem?_cons_zero, List.getElem?_cons_succ, List.set_cons_zero, List.set_cons_succ, decide_true, decide_false, Int.reduceEq, Int.reduceLT, Int.reduceLE, decide_eq_true_eq, Bool.not_true, Bool.not_false, if_true, if_false, Bool.false_eq_true, b__law_pick, mem, up3, v_mod hc, List.length_map, ej, set1, ix0 hjr, hp, v_mod h0, v_fdiv hd, set0 hjr]
    rfl
  · have a1 : 0 ≤ s.C[j] % 2147483647 := Int.emod_nonneg _ (by decide)
    have a2 : s.C[j] % 2147483647 < 2147483647 := Int.emod_lt_of_pos _ (by decide)
    have d2 : divOk 2147483647 = true := by decide
    generalize hx : s.C[j] % 2147483647 = x at *
    have a3 : 0 ≤ s.C[j] / 2147483647 % 2147483647 := Int.emod_nonneg _ (by decide)
    have a4 : s.C[j] / 2147483647 % 2147483647 < 2147483647 := Int.emod_lt_of_pos _ (by decide)
    generalize hy : s.C[j] / 2147483647 % 2147483647 = y at *
    have b1 : 0 ≤ (x + 1) * (1299709 * (s.k : Int) + 15485863 + (j : Int)) % 2147483629 := Int.emod_nonneg _ (by decide)
    have b2 : (x + 1) * (1299709 * (s.k : Int) + 15485863 + (j : Int)) % 2147483629 < 2147483629 := Int.emod_lt_of_pos _ (by decide)
    generalize hl : (x + 1) * (1299709 * (s.k : Int) + 15485863 + (j : Int)) % 2147483629 = lo at *
    have b3 : 0 ≤ (y + 3) * (49979687 + 86028121 * (s.k : Int)) % 2147483587 := Int.emod_nonneg _ (by decide)
    have b4 : (y + 3) * (49979687 + 86028121 * (s.k : Int)) % 2147483587 < 2147483587 := Int.emod_lt_of_pos _ (by decide)
    generalize hh : (y + 3) * (49979687 + 86028121 * (s.k : Int)) % 2147483587 = hi at *
    have c1 : 0 ≤ (lo * lo + 32452843 * hi + (s.k : Int)) % 2147483579 := Int.emod_nonneg _ (by decide)
    have c2 : (lo * lo + 32452843 * hi + (s.k : Int)) % 2147483579 < 2147483579 := Int.emod_lt_of_pos _ (by decide)
    generalize hl2 : (lo * lo + 32452843 * hi + (s.k : Int)) % 2147483579 = lo2 at *
    have c3 : 0 ≤ (hi * hi + 67867967 * lo2 + (j : Int)) % 2147483563 := Int.emod_nonneg _ (by decide)
    have c4 : (hi * hi + 67867967 * lo2 + (j : Int)) % 2147483563 < 2147483563 := Int.emod_lt_of_pos _ (by decide)
    generalize hh2 : (hi * hi + 67867967 * lo2 + (j : Int)) % 2147483563 = hi2 at *
    refine ⟨(lo2 * 2147483549 + hi2) % 4611686018427387847 % many, ⟨s.R, s.C, s.k + 1⟩, ?_, Int.emod_nonneg _ (by omega), Int.emod_lt_of_pos _ h0, rfl, ⟨h.len, h.pos, h.few⟩⟩
    simp -implicitDefEqProofs only [x_var, y_var, x_con, x_glob, x_bin, x_neg, x_cmp, x_chain, x_isN, x_notN, x_and, x_and1, x_or, x_or1, x_not, x_ife, x_call, x_callP, x_bi, x_isi, x_listRg, x_ix, x_sl, x_tup, x_lst, x_comp, x_compIf, x_box, x_pop, x_popAt, x_append, x_nil, x_cons, x_seq, x_rng1, x_rng2, x_zip, x_asg, x_setix, x_aug, x_ex, x_if, x_for, x_while, x_ret, x_brk, x_cont, x_bnil, x_bcons, y_rt1, y_rtB, y_bin1, y_bin2, y_cmp1, y_cmp2, y_neg, y_isN, y_notN, y_andT, y_andF, y_orT, y_orF, y_not, y_ifT, y_ifF, y_chain1, y_chain2, y_chainT, y_chainF, y_chain3, y_cons1, y_cons2, y_call, y_callP, y_bi, y_isi, y_ix1, y_ix2, y_tup0, y_tup1, y_tup2, y_tup3, y_tup4, y_lst0, y_lst1, y_lst2, y_lst3, y_lc, y_box, y_pop, y_popAt1, y_popAt2, y_append1, y_append2, y_rtL, y_seq, y_seqT, y_seqL, y_rng21, y_zip1, y_zip2, y_zipT, y_zipL, y_rtE, y_asg, y_set1, y_set2, y_set3, y_aug, y_augA, y_augS, y_ex, y_ifST, y_ifSF, y_for, y_ret, y_nx, y_rt, y_bk, y_ct, y_fnR, y_fnN, y_nm, y_tp, y_tgn, y_tgc, y_tgk, v_add, v_sub, v_eqI, v_eqS, v_eqB, v_neI, v_neS, v_neB, v_lt, v_le, v_gt, v_ge, v_lenT, v_lenL, v_lenF, v_tupL, v_tupT, v_listL, v_listT, v_intI, v_intB, v_max, v_min, v_ixT, v_ixL, v_at0, v_at1, v_at2, y_lst4, y_lst5, y_lst6, y_lst7, y_tup5, y_tup6, y_sl1, y_sl1i, y_sl2, y_sl2i, y_sl3, v_slF, v_slL, v_slT, w_0, w_1, y_part, y_sl1v, y_sl1b, y_sl1n, y_sl2v, y_sl2b, y_sl2n, v_isTT, v_isTI, v_isTB, v_isTS, v_isIT, v_isII, v_isIB, v_isIS, v_isBT, v_isBI, v_isBB, v_isBS, v_isST, v_isSI, v_isSB, v_isSS, v_isN, x_rev, x_join, x_fmt, x_fstr, x_zipS, y_rev, y_join1, y_join2, y_fmt, y_fstr, y_rtS, y_zipS1, y_zipS2, v_revL, List.getElem?_cons_zero, List.getElem?_cons_succ, List.set_cons_zero, List.set_cons_succ, decide_true, decide_false, Int.reduceEq, Int.reduceLT, Int.reduceLE, decide_eq_true_eq, Bool.not_true, Bool.not_false, if_true, if_false, Bool.false_eq_true, b__law_pick, mem, up3, v_mod hc, List.length_map, ej, set1, ix0 hjr, hp, e1, v_mod (show (0 : Int) < 2147483647 by decide), hx, v_mul (mulOk_l (i := 1299709) (by decide) (by decide)), v_mul (mulOk_l (i := x + 1) (j := 1299709 * (s.k : Int) + 15485863 + (j : Int)) (by omega) (by omega)), v_mod (show (0 : Int) < 2147483629 by decide), hl, v_fdiv d2, hy, v_mul (mulOk_l (i := 86028121) (by decide) (by decide)), v_mul (mulOk_l (i := y + 3) (j := 49979687 + 86028121 * (s.k : Int)) (by omega) (by omega)), v_mod (show (0 : Int) < 2147483587 by decide), hh, v_mul (mulOk_l (i := lo) (j := lo) (by omega) (by omega)), v_mul (mulOk_l (i := 32452843) (by decide) (by decide)), v_mod (show (0 : Int) < 2147483579 by decide), hl2, v_mul (mulOk_l (i := hi) (j := hi) (by omega) (by omega)), v_mul (mulOk_l (i := 67867967) (by decide) (by decide)), v_mod (show (0 : Int) < 2147483563 by decide), hh2, v_mul (mulOk_l (i := lo2) (j := 2147483549) (by omega) (by omega)), v_mod h0, v_mod (show (0 : Int) < 4611686018427387847 by decide)]
    rfl
theorem log_of {i : Int} (h0 : 0 < i) (h1 : i < 2 ^ 64) : i.natAbs.log2 < 9000 := by
  have : i.natAbs.log2 < 64 := (Nat.log2_lt (by omega)).mpr (by omega)
  omega
theorem pick_run {G : List D} {n : Nat} (s : Dk) (h : s.Ok) (hk : s.k < 2 ^ 40) (many : Int) (h0 : 0 < many) (h1 : many < 2 ^ 64) (g : M) :
    ∃ d s', run tab G (n + 1) 2 [.ref 1, .int many] (mem s g) = some (.int d, mem s' g) ∧ 0 ≤ d ∧ d < many ∧ s'.k = s.k + 1 ∧ s'.Ok := by
  rw [run__law_pick]
  exact pick_ok _ _ s h hk many h0 (log_of h0 h1) g
end Lw

namespace Lw
open PySem Pv
theorem cut63 {l : List D} (h : l.length ≤ 63) : cutD l none (some 63) = l := by
  simp only [cutD, sIx]
  have : ¬ ((63 : Int) < 0) := by decide
  simp [this, h]
def bigD : D → D
  | .int c => .int (c * (if 1000000000000000000 ≤ c then 1 else 0))
  | d => d
theorem draws_ok (F : Fn) (G : List D) (ns : List Int) (h : ns.length ≤ 63) :
    ∃ s : Dk, runBody F G f__law_deck [.frz (ns.map .int)] [] = some (.ref 1, mem s []) ∧ s.Ok ∧ s.k = 0 := by
  have e10 : ∀ m : M, bopD m .pow (.int 10) (.int 18) = some (.int 1000000000000000000) := fun m => v_pow (by decide)
  have hm : ∀ (C : List Int) (env : Pv.Env) (m : M), (env[2]? = some none) → env.length = 3 → compL (.nm 2) env (evE F G (.bin .mul (.var 2) (.bi .int (.cons (.cmp .ge (.var 2) (.bin .pow (.con (.int 10)) (.con (.int 18)))) .nil)))) (C.map .int) m = some ((C.map fun c => c * (if 1000000000000000000 ≤ c then 1 else 0)).map .int, m) := by
    intro C env m h2 h3
    match env, h2, h3 with
    | [a, b, none], _, _ =>
    rw [comp_map bigD]
    · rw [List.map_map, List.map_map]; rfl
    · intro x hx
      obtain ⟨c, _, rfl⟩ := List.mem_map.mp hx
      refine ⟨_, y_nm, ?_⟩
      by_cases hc : (1000000000000000000 : Int) ≤ c
      · simp -implicitDefEqProofs only [x_var, y_var, x_con, x_glob, x_bin, x_neg, x_cmp, x_chain, x_isN, x_notN, x_and, x_and1, x_or, x_or1, x_not, x_ife, x_call, x_callP, x_bi, x_isi, x_listRg, x_ix, x_sl, x_tup, x_lst, x_comp, x_compIf, x_box, x_pop, x_popAt, x_append, x_nil, x_cons, x_seq, x_rng1, x_rng2, x_zip, x_asg, x_setix, x_aug, x_ex, x_if, x_for, x_while, x_ret, x_brk, x_cont, x_bnil, x_bcons, y_rt1, y_rtB, y_bin1, y_bin2, y_cmp1, y_cmp2, y_neg, y_isN, y_notN, y_andT, y_andF, y_orT, y_orF, y_not, y_ifT, y_ifF, y_chain1, y_chain2, y_chainT, y_chainF, y_chain3, y_cons1, y_cons2, y_call, y_callP, y_bi, y_isi, y_ix1, y_ix2, y_tup0, y_tup1, y_tup2, y_tup3, y_tup4, y_lst0, y_lst1, y_lst2, y_lst3, y_lc, y_box, y_pop, y_popAt1, y_popAt2, y_append1, y_append2, y_rtL, y_seq, y_seqT, y_seqL, y_rng21, y_zip1, y_zip2, y_zipT, y_zipL, y_rtE, y_asg, y_set1, y_set2, y_set3, y_aug, y_augA, y_augS, y_ex, y_ifST, y_ifSF, y_for, y_ret, y_nx, y_rt, y_bk, y_ct, y_fnR, y_fnN, y_nm, y_tp, y_tgn, y_tgc, y_tgk, v_add, v_sub, v_eqI, v_eqS, v_eqB, v_neI, v_neS, v_neB, v_lt, v_le, v_gt, v_ge, v_lenT, v_lenL, v_lenF, v_tupL, v_tupT, v_listL, v_listT, v_intI, v_intB, v_max, v_min, v_ixT, v_ixL, v_at0, v_at1, v_at2, y_lst4, y_lst5, y_lst6, y_lst7, y_tup5, y_tup6, y_sl1, y_sl1i, y_sl2, y_sl2i, y_sl3, v_slF, v_slL, v_slT, w_0, w_1, y_part, y_sl1v, y_sl1b, y_sl1n, y_sl2v, y_sl2b, y_sl2n, v_isTT, v_isTI, v_isTB, v_isTS, v_isIT, v_isII, v_isIB, v_isIS, v_isBT, v_isBI, v_isBB, v_isBS, v_isST, v_isSI, v_isSB, v_isSS, v_isN, x_rev, x_join, x_fmt, x_fstr, x_zipS, y_rev, y_join1, y_join2, y_fmt, y_fstr, y_rtS, y_zipS1, y_zipS2, v_revL, List.getElem?_cons_zero, List.getElem?_cons_succ, List.set_cons_zero, List.set_cons_succ, decide_true, decide_false, Int.reduceEq, Int.reduceLT, Int.reduceLE, decide_eq_true_eq, Bool.not_true, Bool.not_false, if_true, if_false, Bool.false_eq_true, e10, hc, v_mul (show mulOk c 1 = true by simp [mulOk, small]), bigD]
      · simp -implicitDefEqProofs only [x_var, y_var, x_con, x_glob, x_bin, x_neg, x_cmp, x_chain, x_isN, x_notN, x_and, x_and1, x_or, x_or1, x_not, x_ife, x_call, x_callP, x_bi, x_isi, x_listRg, x_ix, x_sl, x_tup, x_lst, x_comp, x_compIf, x_box, x_pop, x_popAt, x_append, x_nil, x_cons, x_seq, x_rng1, x_rng2, x_zip, x_asg, x_setix, x_aug, x_ex, x_if, x_for, x_while, x_ret, x_brk, x_cont, x_bnil, x_bcons, y_rt1, y_rtB, y_bin1, y_bin2, y_cmp1, y_cmp2, y_neg, y_isN, y_notN, y_andT, y_andF, y_orT, y_orF, y_not, y_ifT, y_ifF, y_chain1, y_chain2, y_chainT, y_chainF, y_chain3, y_cons1, y_cons2, y_call, y_callP, y_bi, y_isi, y_ix1, y_ix2, y_tup0, y_tup1, y_tup2, y_tup3, y_tup4, y_lst0, y_lst1, y_lst2, y_lst3, y_lc, y_box, y_pop, y_popAt1, y_popAt2, y_append1, y_append2, y_rtL, y_seq, y_seqT, y_seqL, y_rng21, y_zip1, y_zip2, y_zipT, y_zipL, y_rtE, y_asg, y_set1, y_set2, y_set3, y_aug, y_augA, y_augS, y_ex, y_ifST, y_ifSF, y_for, y_ret, y_nx, y_rt, y_bk, y_ct, y_fnR, y_fnN, y_nm, y_tp, y_tgn, y_tgc, y_tgk, v_add, v_sub, v_eqI, v_eqS, v_eqB, v_neI, v_neS, v_neB, v_lt, v_le, v_gt, v_ge, v_lenT, v_lenL, v_lenF, v_tupL, v_tupT, v_listL, v_listT, v_intI, v_intB, v_max, v_min, v_ixT, v_ixL, v_at0, v_at1, v_at2, y_lst4, y_lst5, y_lst6, y_lst7, y_tup5, y_tup6, y_sl1, y_sl1i, y_sl2, y_sl2i, y_sl3, v_slF, v_slL, v_slT, w_0, w_1, y_part, y_sl1v, y_sl1b, y_sl1n, y_sl2v, y_sl2b, y_sl2n, v_isTT, v_isTI, v_isTB, v_isTS, v_isIT, v_isII, v_isIB, v_isIS, v_isBT, v_isBI, v_isBB, v_isBS, v_isST, v_isSI, v_isSB, v_isSS, v_isN, x_rev, x_join, x_fmt, x_fstr, x_zipS, y_rev, y_join1, y_join2, y_fmt, y_fstr, y_rtS, y_zipS1, y_zipS2, v_revL, List.getElem?_cons_zero, List.getElem?_cons_succ, List.set_cons_zero, List.set_cons_succ, decide_true, decide_false, Int.reduceEq, Int.reduceLT, Int.reduceLE, decide_eq_true_eq, Bool.not_true, Bool.not_false, if_true, if_false, Bool.false_eq_true, e10, hc, v_mul (show mulOk c 0 = true by simp [mulOk, small]), bigD]
  have e1 : ∀ x, bopD [] .mul (.lst [.int 0]) (.int (if x = true then 1 else 0)) = some (.lst (if x = true then [.int 0] else [])) := by intro x; cases x <;> rfl
  rw [r__law_deck]
  cases ns with
  | nil =>
    refine ⟨⟨[0], [0], 0⟩, ?_, ⟨rfl, by decide, by decide⟩, rfl⟩
    have e2 := hm [0]
    rfl
  | cons n ns =>
    refine ⟨⟨(n :: ns).map fun c => c * (if 1000000000000000000 ≤ c then 1 else 0), n :: ns, 0⟩, ?_, ⟨by simp, by simp, h⟩, rfl⟩
    have e2 := hm (n :: ns)
    have hl : ((n :: ns).map D.int).length ≤ 63 := by simpa using h
    have hl' : ((n :: ns).map D.int).length ≤ lim := lim10 (by omega)
    have e3 : (((((n :: ns).map D.int).length : Nat) : Int) = 0) = False := by simp; omega
    have e4 : ∀ m : M, bopD m .mul (.lst [.int 0]) (.int 0) = some (.lst []) := fun m => rfl
    simp -implicitDefEqProofs only [x_var, y_var, x_con, x_glob, x_bin, x_neg, x_cmp, x_chain, x_isN, x_notN, x_and, x_and1, x_or, x_or1, x_not, x_ife, x_call, x_callP, x_bi, x_isi, x_listRg, x_ix, x_sl, x_tup, x_lst, x_comp, x_compIf, x_box, x_pop, x_popAt, x_append, x_nil, x_cons, x_seq, x_rng1, x_rng2, x_zip, x_asg, x_setix, x_aug, x_ex, x_if, x_for, x_while, x_ret, x_brk, x_cont, x_bnil, x_bcons, y_rt1, y_rtB, y_bin1, y_bin2, y_cmp1, y_cmp2, y_neg, y_isN, y_notN, y_andT, y_andF, y_orT, y_orF, y_not, y_ifT, y_ifF, y_chain1, y_chain2, y_chainT, y_chainF, y_chain3, y_cons1, y_cons2, y_call, y_callP, y_bi, y_isi, y_ix1, y_ix2, y_tup0, y_tup1, y_tup2, y_tup3, y_tup4, y_lst0, y_lst1, y_lst2, y_lst3, y_lc, y_box, y_pop, y_popAt1, y_popAt2, y_append1, y_append2, y_rtL, y_seq, y_seqT, y_seqL, y_rng21, y_zip1, y_zip2, y_zipT, y_zipL, y_rtE, y_asg, y_set1, y_set2, y_set3, y_aug, y_augA, y_augS, y_ex, y_ifST, y_ifSF, y_for, y_ret, y_nx, y_rt, y_bk, y_ct, y_fnR, y_fnN, y_nm, y_tp, y_tgn, y_tgc, y_tgk, v_add, v_sub, v_eqI, v_eqS, v_eqB, v_neI, v_neS, v_neB, v_lt, v_le, v_gt, v_ge, v_lenT, v_lenL, v_lenF, v_tupL, v_tupT, v_listL, v_listT, v_intI, v_intB, v_max, v_min, v_ixT, v_ixL, v_at0, v_at1, v_at2, y_lst4, y_lst5, y_lst6, y_lst7, y_tup5, y_tup6, y_sl1, y_sl1i, y_sl2, y_sl2i, y_sl3, v_slF, v_slL, v_slT, w_0, w_1, y_part, y_sl1v, y_sl1b, y_sl1n, y_sl2v, y_sl2b, y_sl2n, v_isTT, v_isTI, v_isTB, v_isTS, v_isIT, v_isII, v_isIB, v_isIS, v_isBT, v_isBI, v_isBB, v_isBS, v_isST, v_isSI, v_isSB, v_isSS, v_isN, x_rev, x_join, x_fmt, x_fstr, x_zipS, y_rev, y_join1, y_join2, y_fmt, y_fstr, y_rtS, y_zipS1, y_zipS2, v_revL, List.getElem?_cons_zero, List.getElem?_cons_succ, List.set_cons_zero, List.set_cons_succ, decide_true, decide_false, Int.reduceEq, Int.reduceLT, Int.reduceLE, decide_eq_true_eq, Bool.not_true, Bool.not_false, if_true, if_false, Bool.false_eq_true, b__law_deck, cut63 hl, e3, e4, v_catL (show ((n :: ns).map D.int).length + ([] : List D).length ≤ lim from hl'), List.append_nil, y_comp hl']
    rw [e2 _ _ (by rfl) (by rfl)]
    simp -implicitDefEqProofs only [x_var, y_var, x_con, x_glob, x_bin, x_neg, x_cmp, x_chain, x_isN, x_notN, x_and, x_and1, x_or, x_or1, x_not, x_ife, x_call, x_callP, x_bi, x_isi, x_listRg, x_ix, x_sl, x_tup, x_lst, x_comp, x_compIf, x_box, x_pop, x_popAt, x_append, x_nil, x_cons, x_seq, x_rng1, x_rng2, x_zip, x_asg, x_setix, x_aug, x_ex, x_if, x_for, x_while, x_ret, x_brk, x_cont, x_bnil, x_bcons, y_rt1, y_rtB, y_bin1, y_bin2, y_cmp1, y_cmp2, y_neg, y_isN, y_notN, y_andT, y_andF, y_orT, y_orF, y_not, y_ifT, y_ifF, y_chain1, y_chain2, y_chainT, y_chainF, y_chain3, y_cons1, y_cons2, y_call, y_callP, y_bi, y_isi, y_ix1, y_ix2, y_tup0, y_tup1, y_tup2, y_tup3, y_tup4, y_lst0, y_lst1, y_lst2, y_lst3, y_lc, y_box, y_pop, y_popAt1, y_popAt2, y_append1, y_append2, y_rtL, y_seq, y_seqT, y_seqL, y_rng21, y_zip1, y_zip2, y_zipT, y_zipL, y_rtE, y_asg, y_set1, y_set2, y_set3, y_aug, y_augA, y_augS, y_ex, y_ifST, y_ifSF, y_for, y_ret, y_nx, y_rt, y_bk, y_ct, y_fnR, y_fnN, y_nm, y_tp, y_tgn, y_tgc, y_tgk, v_add, v_sub, v_eqI, v_eqS, v_eqB, v_neI, v_neS, v_neB, v_lt, v_le, v_gt, v_ge, v_lenT, v_lenL, v_lenF, v_tupL, v_tupT, v_listL, v_listT, v_intI, v_intB, v_max, v_min, v_ixT, v_ixL, v_at0, v_at1, v_at2, y_lst4, y_lst5, y_lst6, y_lst7, y_tup5, y_tup6, y_sl1, y_sl1i, y_sl2, y_sl2i, y_sl3, v_slF, v_slL, v_slT, w_0, w_1, y_part, y_sl1v, y_sl1b, y_sl1n, y_sl2v, y_sl2b, y_sl2n, v_isTT, v_isTI, v_isTB, v_isTS, v_isIT, v_isII, v_isIB, v_isIS, v_isBT, v_isBI, v_isBB, v_isBS, v_isST, v_isSI, v_isSB, v_isSS, v_isN, x_rev, x_join, x_fmt, x_fstr, x_zipS, y_rev, y_join1, y_join2, y_fmt, y_fstr, y_rtS, y_zipS1, y_zipS2, v_revL, List.getElem?_cons_zero, List.getElem?_cons_succ, List.set_cons_zero, List.set_cons_succ, decide_true, decide_false, Int.reduceEq, Int.reduceLT, Int.reduceLE, decide_eq_true_eq, Bool.not_true, Bool.not_false, if_true, if_false, Bool.false_eq_true]
    rfl
end Lw

namespace Lw
open PySem Pv
/-! data: flat things and tuples, at most n deep -/
def okN : Nat → D → Bool
  | _, .non => true
  | _, .bl _ => true
  | _, .int _ => true
  | n, .str x => PyData.strOk x && decide (x.length ≤ 1000 + n)
  | n + 1, .tup xs => decide (xs.length ≤ 1000) && xs.all (okN n)
  | _, _ => false
theorem okN_tup {n : Nat} {xs : List D} : okN (n + 1) (.tup xs) = true ↔ xs.length ≤ 1000 ∧ ∀ x ∈ xs, okN n x = true := by
  rw [okN, Bool.and_eq_true, decide_eq_true_eq, List.all_eq_true]
theorem okN_up : ∀ {n : Nat} {x : D}, okN n x = true → okN (n + 1) x = true
  | 0, .non, _ | 0, .bl _, _ | 0, .int _, _ | _ + 1, .non, _ | _ + 1, .bl _, _ | _ + 1, .int _, _ => rfl
  | 0, .str _, h | _ + 1, .str _, h => by simp [okN] at h ⊢; exact ⟨h.1, by omega⟩
  | 0, .tup _, h => by simp [okN] at h
  | n + 1, .tup xs, h => by
    rw [okN_tup] at h ⊢
    exact ⟨h.1, fun x hx => okN_up (h.2 x hx)⟩
  | 0, .lst _, h | 0, .frz _, h | 0, .ref _, h | _ + 1, .lst _, h | _ + 1, .frz _, h | _ + 1, .ref _, h => by simp [okN] at h
theorem okN_le {n k : Nat} {x : D} (h : okN n x = true) (hk : n ≤ k) : okN k x = true := by
  obtain ⟨d, rfl⟩ := Nat.exists_eq_add_of_le hk
  induction d with
  | zero => exact h
  | succ d ih => exact okN_up (ih (by omega))
theorem okN_pure : ∀ {n : Nat} {x : D}, okN n x = true → pure_ x = true ∧ (toP x).canLay0 = true
  | _, .non, _ => ⟨rfl, by simp [toP, PyData.canLay0]⟩
  | _, .bl _, _ => ⟨rfl, by simp [toP, PyData.canLay0]⟩
  | _, .int _, _ => ⟨rfl, by simp [toP, PyData.canLay0]⟩
  | 0, .str x, h | _ + 1, .str x, h => ⟨rfl, by simp [okN] at h; simpa [toP, PyData.canLay0] using h.1⟩
  | 0, .tup _, h => by simp [okN] at h
  | n + 1, .tup xs, h => by
    have h' := (okN_tup.mp h).2
    have q : ∀ l : List D, (∀ x ∈ l, okN n x = true) → pures l = true ∧ PyData.canLayAll0 (toPs l) = true := by
      intro l
      induction l with
      | nil => intro _; exact ⟨rfl, by simp [toPs, PyData.canLayAll0]⟩
      | cons x r ih =>
        intro hl
        have a := okN_pure (hl x List.mem_cons_self)
        have b := ih fun y hy => hl y (List.mem_cons_of_mem _ hy)
        exact ⟨by rw [pures, a.1, b.1]; rfl, by rw [toPs, PyData.canLayAll0, a.2, b.2]; rfl⟩
    have q := q xs h'
    exact ⟨by rw [pure_]; exact q.1, by rw [toP, PyData.canLay0]; exact q.2⟩
  | 0, .lst _, h | 0, .frz _, h | 0, .ref _, h | _ + 1, .lst _, h | _ + 1, .frz _, h | _ + 1, .ref _, h => by simp [okN] at h
/-! how many things -/
mutual
def sz : D → Nat
  | .tup xs => 1 + szs xs
  | _ => 1
def szs : List D → Nat
  | [] => 0
  | x :: r => sz x + szs r
end
theorem sz_pos (x : D) : 0 < sz x := by cases x <;> simp [sz] <;> omega
theorem szs_app {l r : List D} : szs (l ++ r) = szs l + szs r := by
  induction l with
  | nil => simp [szs]
  | cons x l ih => simp [szs, ih]; omega
theorem szs_len (l : List D) : l.length ≤ szs l := by
  induction l with
  | nil => simp [szs]
  | cons x l ih => have := sz_pos x; simp [szs]; omega
theorem szs_bound {l : List D} {b : Nat} (h : ∀ x ∈ l, sz x ≤ b) : szs l ≤ l.length * b := by
  induction l with
  | nil => simp [szs]
  | cons x l ih =>
    have a := h x List.mem_cons_self
    have c := ih fun y hy => h y (List.mem_cons_of_mem _ hy)
    simp only [szs, List.length_cons, Nat.succ_mul]
    omega
theorem sz_mem {l : List D} {x : D} (h : x ∈ l) : sz x ≤ szs l := by
  induction l with
  | nil => cases h
  | cons y l ih =>
    simp only [szs]
    rcases List.mem_cons.mp h with rfl | h
    · omega
    · have := ih h; omega
theorem at_any {P : D → Prop} {l : List D} (h : ∀ x ∈ l, P x) {d : Int} (h0 : 0 ≤ d) (h1 : d < l.length) : ∃ r, atD l d = some r ∧ P r := by
  obtain ⟨j, rfl⟩ := Int.eq_ofNat_of_zero_le h0
  have hj : j < l.length := by omega
  exact ⟨l[j], atD_nat (by simp [hj]), h _ (List.getElem_mem hj)⟩
theorem cut_mem {xs : List D} {lo hi : Option Int} {x : D} (h : x ∈ cutD xs lo hi) : x ∈ xs := List.mem_of_mem_drop (List.mem_of_mem_take h)
theorem cut_len {xs : List D} {lo hi : Option Int} : (cutD xs lo hi).length ≤ xs.length := by
  unfold cutD
  rw [List.length_take, List.length_drop]
  omega
/-- a list against the empty one -/
theorem ne_nilR {m : M} {l : Nat} {xs : List D} (hl : m[l]? = some (.lst xs)) (h : pures xs = true ∧ PyData.canLayAll0 (toPs xs) = true) : cmpD m .ne (.ref l) (.lst []) = some (!xs.isEmpty) := by
  have e : eqOk (.lst xs) (.lst []) = true := by
    have d : (PyData.list []).depth ≤ 64 := by decide
    have e1 : pure_ (.lst []) = true := rfl
    have e2 : (toP (.lst [])).canLay0 = true := by simp only [toP, toPs, PyData.canLay0, PyData.canLayAll0]
    have e3 : pure_ (.lst xs) = true := by rw [pure_]; exact h.1
    have e4 : (toP (.lst xs)).canLay0 = true := by rw [toP, PyData.canLay0]; exact h.2
    unfold eqOk
    rw [e1, e2, e3, e4]
    exact decide_eq_true (Nat.le_trans (Nat.min_le_right _ _) d)
  have ed : deref m (.ref l) = .lst xs := by simp only [deref, hl]
  show (eqD m (.ref l) (.lst [])).map (!·) = _
  have : eqD m (.ref l) (.lst []) = if eqOk (deref m (.ref l)) (deref m (.lst [])) = true then some (PyData.eqv (toP (deref m (.ref l))) (toP (deref m (.lst [])))) else none := rfl
  rw [this, ed]
  show (if eqOk (.lst xs) (.lst []) = true then some (PyData.eqv (toP (.lst xs)) (toP (.lst []))) else none).map (!·) = _
  rw [if_pos e]
  cases xs with
  | nil => rfl
  | cons x r => simp only [toP, toPs, PyData.eqv, PyData.eqvAll]; rfl
theorem eq_nilT {n : Nat} {l : List D} (h : okN n (.tup l) = true) {m : M} : cmpD m .eq (.tup l) (.tup []) = some l.isEmpty := by
  have q := okN_pure h
  have e : eqOk (.tup l) (.tup []) = true := by
    have d : (PyData.tuple []).depth ≤ 64 := by decide
    have e1 : pure_ (.tup []) = true := rfl
    have e2 : (toP (.tup [])).canLay0 = true := by simp only [toP, toPs, PyData.canLay0, PyData.canLayAll0]
    unfold eqOk
    rw [q.1, q.2, e1, e2]
    exact decide_eq_true (Nat.le_trans (Nat.min_le_right _ _) d)
  show (if eqOk (.tup l) (.tup []) = true then some (PyData.eqv (toP (.tup l)) (toP (.tup []))) else none) = _
  rw [if_pos e]
  cases l with
  | nil => rfl
  | cons x r => simp only [toP, toPs, PyData.eqv, PyData.eqvAll]; rfl
end Lw

namespace Lw
open PySem Pv
theorem zip_eq : ∀ {xs ys : List D}, xs.length = ys.length → ((List.zipWith (fun a b => D.tup [a, b]) xs ys).findSome? (fun p => match p with | .tup [a, b] => if a = b then none else some (D.bl false) | _ => none) = if xs = ys then none else some (.bl false))
  | [], [], _ => rfl
  | [], _ :: _, h => by simp at h
  | _ :: _, [], h => by simp at h
  | x :: xs, y :: ys, h => by
    have ih := zip_eq (xs := xs) (ys := ys) (by simpa using h)
    rw [List.zipWith_cons_cons, List.findSome?_cons]
    by_cases e : x = y
    · subst e
      simp only [if_true, ih, List.cons.injEq, true_and]
    · simp only [e, if_false, List.cons.injEq, false_and]
theorem zw_mem {xs ys : List D} {p : D} (h : p ∈ List.zipWith (fun a b => D.tup [a, b]) xs ys) : ∃ a b, a ∈ xs ∧ b ∈ ys ∧ p = .tup [a, b] := by
  induction xs generalizing ys with
  | nil => cases h
  | cons x xs ih =>
    cases ys with
    | nil => cases h
    | cons y ys =>
      rw [List.zipWith_cons_cons] at h
      rcases List.mem_cons.mp h with rfl | h
      · exact ⟨x, y, List.mem_cons_self, List.mem_cons_self, rfl⟩
      · obtain ⟨a, b, h1, h2, h3⟩ := ih h
        exact ⟨a, b, List.mem_cons_of_mem _ h1, List.mem_cons_of_mem _ h2, h3⟩
theorem bTT : (true == true) = true := rfl
theorem bFF : (false == false) = true := rfl
theorem bTF : (true == false) = false := rfl
theorem bFT : (false == true) = false := rfl
theorem alike_ok {G : List D} : ∀ (n : Nat) (x y : D) (m : M), okN n x = true → okN n y = true → run tab G (n + 1) 0 [x, y] m = some (.bl (decide (x = y)), m) := by
  intro n
  induction n with
  | zero =>
    intro x y m hx hy
    rw [run_alike, r_alike]
    cases x <;> first | (simp [okN] at hx; done) | skip
    all_goals (cases y <;> first | (simp [okN] at hy; done) | skip)
    all_goals (simp -implicitDefEqProofs only [x_var, y_var, x_con, x_glob, x_bin, x_neg, x_cmp, x_chain, x_isN, x_notN, x_and, x_and1, x_or, x_or1, x_not, x_ife, x_call, x_callP, x_bi, x_isi, x_listRg, x_ix, x_sl, x_tup, x_lst, x_comp, x_compIf, x_box, x_pop, x_popAt, x_append, x_nil, x_cons, x_seq, x_rng1, x_rng2, x_zip, x_asg, x_setix, x_aug, x_ex, x_if, x_for, x_while, x_ret, x_brk, x_cont, x_bnil, x_bcons, y_rt1, y_rtB, y_bin1, y_bin2, y_cmp1, y_cmp2, y_neg, y_isN, y_notN, y_andT, y_andF, y_orT, y_orF, y_not, y_ifT, y_ifF, y_chain1, y_chain2, y_chainT, y_chainF, y_chain3, y_cons1, y_cons2, y_call, y_callP, y_bi, y_isi, y_ix1, y_ix2, y_tup0, y_tup1, y_tup2, y_tup3, y_tup4, y_lst0, y_lst1, y_lst2, y_lst3, y_lc, y_box, y_pop, y_popAt1, y_popAt2, y_append1, y_append2, y_rtL, y_seq, y_seqT, y_seqL, y_rng21, y_zip1, y_zip2, y_zipT, y_zipL, y_rtE, y_asg, y_set1, y_set2, y_set3, y_aug, y_augA, y_augS, y_ex, y_ifST, y_ifSF, y_for, y_ret, y_nx, y_rt, y_bk, y_ct, y_fnR, y_fnN, y_nm, y_tp, y_tgn, y_tgc, y_tgk, v_add, v_sub, v_eqI, v_eqS, v_eqB, v_neI, v_neS, v_neB, v_lt, v_le, v_gt, v_ge, v_lenT, v_lenL, v_lenF, v_tupL, v_tupT, v_listL, v_listT, v_intI, v_intB, v_max, v_min, v_ixT, v_ixL, v_at0, v_at1, v_at2, y_lst4, y_lst5, y_lst6, y_lst7, y_tup5, y_tup6, y_sl1, y_sl1i, y_sl2, y_sl2i, y_sl3, v_slF, v_slL, v_slT, w_0, w_1, y_part, y_sl1v, y_sl1b, y_sl1n, y_sl2v, y_sl2b, y_sl2n, v_isTT, v_isTI, v_isTB, v_isTS, v_isIT, v_isII, v_isIB, v_isIS, v_isBT, v_isBI, v_isBB, v_isBS, v_isST, v_isSI, v_isSB, v_isSS, v_isN, x_rev, x_join, x_fmt, x_fstr, x_zipS, y_rev, y_join1, y_join2, y_fmt, y_fstr, y_rtS, y_zipS1, y_zipS2, v_revL, List.getElem?_cons_zero, List.getElem?_cons_succ, List.set_cons_zero, List.set_cons_succ, decide_true, decide_false, Int.reduceEq, Int.reduceLT, Int.reduceLE, decide_eq_true_eq, Bool.not_true, Bool.not_false, if_true, if_false, Bool.false_eq_true, b_alike, bTT, bFF, bTF, bFT, Bool.not_true, Bool.not_false, reduceCtorEq, D.int.injEq, D.str.injEq, D.bl.injEq]; try simp [Bool.beq_eq_decide_eq])
  | succ n ih =>
    intro x y m hx hy
    rw [run_alike, r_alike]
    cases x <;> first | (simp [okN] at hx; done) | skip
    all_goals (cases y <;> first | (simp [okN] at hy; done) | skip)
    case tup.tup xs ys =>
      have hx := okN_tup.mp hx
      have hy := okN_tup.mp hy
      by_cases hl : xs.length = ys.length
      · have hli : ((xs.length : Int) = (ys.length : Int)) = True := by simp [hl]
        have hf := for_first (m := m) (t := .tp (.cons (.nm 2) (.cons (.nm 3) .nil))) (tb := evB (run tab G (n + 1)) G l_alike_0) (fun p => match p with | .tup [a, b] => if a = b then none else some (D.bl false) | _ => none)
          (fun env => ∃ a b, env = [some (.tup xs), some (.tup ys), a, b]) (List.zipWith (fun a b => D.tup [a, b]) xs ys) [some (.tup xs), some (.tup ys), none, none] ⟨_, _, rfl⟩ (by
            rintro p hp env ⟨u, v, rfl⟩
            obtain ⟨a, b, ha, hb, rfl⟩ := zw_mem hp
            have ea := ih a b m (hx.2 a ha) (hy.2 b hb)
            refine ⟨[some (.tup xs), some (.tup ys), some a, some b], by simp -implicitDefEqProofs only [x_var, y_var, x_con, x_glob, x_bin, x_neg, x_cmp, x_chain, x_isN, x_notN, x_and, x_and1, x_or, x_or1, x_not, x_ife, x_call, x_callP, x_bi, x_isi, x_listRg, x_ix, x_sl, x_tup, x_lst, x_comp, x_compIf, x_box, x_pop, x_popAt, x_append, x_nil, x_cons, x_seq, x_rng1, x_rng2, x_zip, x_asg, x_setix, x_aug, x_ex, x_if, x_for, x_while, x_ret, x_brk, x_cont, x_bnil, x_bcons, y_rt1, y_rtB, y_bin1, y_bin2, y_cmp1, y_cmp2, y_neg, y_isN, y_notN, y_andT, y_andF, y_orT, y_orF, y_not, y_ifT, y_ifF, y_chain1, y_chain2, y_chainT, y_chainF, y_chain3, y_cons1, y_cons2, y_call, y_callP, y_bi, y_isi, y_ix1, y_ix2, y_tup0, y_tup1, y_tup2, y_tup3, y_tup4, y_lst0, y_lst1, y_lst2, y_lst3, y_lc, y_box, y_pop, y_popAt1, y_popAt2, y_append1, y_append2, y_rtL, y_seq, y_seqT, y_seqL, y_rng21, y_zip1, y_zip2, y_zipT, y_zipL, y_rtE, y_asg, y_set1, y_set2, y_set3, y_aug, y_augA, y_augS, y_ex, y_ifST, y_ifSF, y_for, y_ret, y_nx, y_rt, y_bk, y_ct, y_fnR, y_fnN, y_nm, y_tp, y_tgn, y_tgc, y_tgk, v_add, v_sub, v_eqI, v_eqS, v_eqB, v_neI, v_neS, v_neB, v_lt, v_le, v_gt, v_ge, v_lenT, v_lenL, v_lenF, v_tupL, v_tupT, v_listL, v_listT, v_intI, v_intB, v_max, v_min, v_ixT, v_ixL, v_at0, v_at1, v_at2, y_lst4, y_lst5, y_lst6, y_lst7, y_tup5, y_tup6, y_sl1, y_sl1i, y_sl2, y_sl2i, y_sl3, v_slF, v_slL, v_slT, w_0, w_1, y_part, y_sl1v, y_sl1b, y_sl1n, y_sl2v, y_sl2b, y_sl2n, v_isTT, v_isTI, v_isTB, v_isTS, v_isIT, v_isII, v_isIB, v_isIS, v_isBT, v_isBI, v_isBB, v_isBS, v_isST, v_isSI, v_isSB, v_isSS, v_isN, x_rev, x_join, x_fmt, x_fstr, x_zipS, y_rev, y_join1, y_join2, y_fmt, y_fstr, y_rtS, y_zipS1, y_zipS2, v_revL, List.getElem?_cons_zero, List.getElem?_cons_succ, List.set_cons_zero, List.set_cons_succ, decide_true, decide_false, Int.reduceEq, Int.reduceLT, Int.reduceLE, decide_eq_true_eq, Bool.not_true, Bool.not_false, if_true, if_false, Bool.false_eq_true], ?_⟩
            by_cases e : a = b
            · simp only [e, if_true]
              rw [e] at ea
              refine ⟨[some (.tup xs), some (.tup ys), some b, some b], ?_, _, _, rfl⟩
              simp -implicitDefEqProofs only [x_var, y_var, x_con, x_glob, x_bin, x_neg, x_cmp, x_chain, x_isN, x_notN, x_and, x_and1, x_or, x_or1, x_not, x_ife, x_call, x_callP, x_bi, x_isi, x_listRg, x_ix, x_sl, x_tup, x_lst, x_comp, x_compIf, x_box, x_pop, x_popAt, x_append, x_nil, x_cons, x_seq, x_rng1, x_rng2, x_zip, x_asg, x_setix, x_aug, x_ex, x_if, x_for, x_while, x_ret, x_brk, x_cont, x_bnil, x_bcons, y_rt1, y_rtB, y_bin1, y_bin2, y_cmp1, y_cmp2, y_neg, y_isN, y_notN, y_andT, y_andF, y_orT, y_orF, y_not, y_ifT, y_ifF, y_chain1, y_chain2, y_chainT, y_chainF, y_chain3, y_cons1, y_cons2, y_call, y_callP, y_bi, y_isi, y_ix1, y_ix2, y_tup0, y_tup1, y_tup2, y_tup3, y_tup4, y_lst0, y_lst1, y_lst2, y_lst3, y_lc, y_box, y_pop, y_popAt1, y_popAt2, y_append1, y_append2, y_rtL, y_seq, y_seqT, y_seqL, y_rng21, y_zip1, y_zip2, y_zipT, y_zipL, y_rtE, y_asg, y_set1, y_set2, y_set3, y_aug, y_augA, y_augS, y_ex, y_ifST, y_ifSF, y_for, y_ret, y_nx, y_rt, y_bk, y_ct, y_fnR, y_fnN, y_nm, y_tp, y_tgn, y_tgc, y_tgk, v_add, v_sub, v_eqI, v_eqS, v_eqB, v_neI, v_neS, v_neB, v_lt, v_le, v_gt, v_ge, v_lenT, v_lenL, v_lenF, v_tupL, v_tupT, v_listL, v_listT, v_intI, v_intB, v_max, v_min, v_ixT, v_ixL, v_at0, v_at1, v_at2, y_lst4, y_lst5, y_lst6, y_lst7, y_tup5, y_tup6, y_sl1, y_sl1i, y_sl2, y_sl2i, y_sl3, v_slF, v_slL, v_slT, w_0, w_1, y_part, y_sl1v, y_sl1b, y_sl1n, y_sl2v, y_sl2b, y_sl2n, v_isTT, v_isTI, v_isTB, v_isTS, v_isIT, v_isII, v_isIB, v_isIS, v_isBT, v_isBI, v_isBB, v_isBS, v_isST, v_isSI, v_isSB, v_isSS, v_isN, x_rev, x_join, x_fmt, x_fstr, x_zipS, y_rev, y_join1, y_join2, y_fmt, y_fstr, y_rtS, y_zipS1, y_zipS2, v_revL, List.getElem?_cons_zero, List.getElem?_cons_succ, List.set_cons_zero, List.set_cons_succ, decide_true, decide_false, Int.reduceEq, Int.reduceLT, Int.reduceLE, decide_eq_true_eq, Bool.not_true, Bool.not_false, if_true, if_false, Bool.false_eq_true, l_alike_0, ea, y_pure (show pure_ (.bl true) = true from rfl)]
            · simp only [e, if_false]
              refine ⟨[some (.tup xs), some (.tup ys), some a, some b], ?_⟩
              simp -implicitDefEqProofs only [x_var, y_var, x_con, x_glob, x_bin, x_neg, x_cmp, x_chain, x_isN, x_notN, x_and, x_and1, x_or, x_or1, x_not, x_ife, x_call, x_callP, x_bi, x_isi, x_listRg, x_ix, x_sl, x_tup, x_lst, x_comp, x_compIf, x_box, x_pop, x_popAt, x_append, x_nil, x_cons, x_seq, x_rng1, x_rng2, x_zip, x_asg, x_setix, x_aug, x_ex, x_if, x_for, x_while, x_ret, x_brk, x_cont, x_bnil, x_bcons, y_rt1, y_rtB, y_bin1, y_bin2, y_cmp1, y_cmp2, y_neg, y_isN, y_notN, y_andT, y_andF, y_orT, y_orF, y_not, y_ifT, y_ifF, y_chain1, y_chain2, y_chainT, y_chainF, y_chain3, y_cons1, y_cons2, y_call, y_callP, y_bi, y_isi, y_ix1, y_ix2, y_tup0, y_tup1, y_tup2, y_tup3, y_tup4, y_lst0, y_lst1, y_lst2, y_lst3, y_lc, y_box, y_pop, y_popAt1, y_popAt2, y_append1, y_append2, y_rtL, y_seq, y_seqT, y_seqL, y_rng21, y_zip1, y_zip2, y_zipT, y_zipL, y_rtE, y_asg, y_set1, y_set2, y_set3, y_aug, y_augA, y_augS, y_ex, y_ifST, y_ifSF, y_for, y_ret, y_nx, y_rt, y_bk, y_ct, y_fnR, y_fnN, y_nm, y_tp, y_tgn, y_tgc, y_tgk, v_add, v_sub, v_eqI, v_eqS, v_eqB, v_neI, v_neS, v_neB, v_lt, v_le, v_gt, v_ge, v_lenT, v_lenL, v_lenF, v_tupL, v_tupT, v_listL, v_listT, v_intI, v_intB, v_max, v_min, v_ixT, v_ixL, v_at0, v_at1, v_at2, y_lst4, y_lst5, y_lst6, y_lst7, y_tup5, y_tup6, y_sl1, y_sl1i, y_sl2, y_sl2i, y_sl3, v_slF, v_slL, v_slT, w_0, w_1, y_part, y_sl1v, y_sl1b, y_sl1n, y_sl2v, y_sl2b, y_sl2n, v_isTT, v_isTI, v_isTB, v_isTS, v_isIT, v_isII, v_isIB, v_isIS, v_isBT, v_isBI, v_isBB, v_isBS, v_isST, v_isSI, v_isSB, v_isSS, v_isN, x_rev, x_join, x_fmt, x_fstr, x_zipS, y_rev, y_join1, y_join2, y_fmt, y_fstr, y_rtS, y_zipS1, y_zipS2, v_revL, List.getElem?_cons_zero, List.getElem?_cons_succ, List.set_cons_zero, List.set_cons_succ, decide_true, decide_false, Int.reduceEq, Int.reduceLT, Int.reduceLE, decide_eq_true_eq, Bool.not_true, Bool.not_false, if_true, if_false, Bool.false_eq_true, l_alike_0, ea, y_pure (show pure_ (.bl false) = true from rfl), e])
        rw [zip_eq hl] at hf
        by_cases e : xs = ys
        · simp only [e, if_true] at hf
          obtain ⟨env', hf, a, b, rfl⟩ := hf
          subst e
          simp -implicitDefEqProofs only [x_var, y_var, x_con, x_glob, x_bin, x_neg, x_cmp, x_chain, x_isN, x_notN, x_and, x_and1, x_or, x_or1, x_not, x_ife, x_call, x_callP, x_bi, x_isi, x_listRg, x_ix, x_sl, x_tup, x_lst, x_comp, x_compIf, x_box, x_pop, x_popAt, x_append, x_nil, x_cons, x_seq, x_rng1, x_rng2, x_zip, x_asg, x_setix, x_aug, x_ex, x_if, x_for, x_while, x_ret, x_brk, x_cont, x_bnil, x_bcons, y_rt1, y_rtB, y_bin1, y_bin2, y_cmp1, y_cmp2, y_neg, y_isN, y_notN, y_andT, y_andF, y_orT, y_orF, y_not, y_ifT, y_ifF, y_chain1, y_chain2, y_chainT, y_chainF, y_chain3, y_cons1, y_cons2, y_call, y_callP, y_bi, y_isi, y_ix1, y_ix2, y_tup0, y_tup1, y_tup2, y_tup3, y_tup4, y_lst0, y_lst1, y_lst2, y_lst3, y_lc, y_box, y_pop, y_popAt1, y_popAt2, y_append1, y_append2, y_rtL, y_seq, y_seqT, y_seqL, y_rng21, y_zip1, y_zip2, y_zipT, y_zipL, y_rtE, y_asg, y_set1, y_set2, y_set3, y_aug, y_augA, y_augS, y_ex, y_ifST, y_ifSF, y_for, y_ret, y_nx, y_rt, y_bk, y_ct, y_fnR, y_fnN, y_nm, y_tp, y_tgn, y_tgc, y_tgk, v_add, v_sub, v_eqI, v_eqS, v_eqB, v_neI, v_neS, v_neB, v_lt, v_le, v_gt, v_ge, v_lenT, v_lenL, v_lenF, v_tupL, v_tupT, v_listL, v_listT, v_intI, v_intB, v_max, v_min, v_ixT, v_ixL, v_at0, v_at1, v_at2, y_lst4, y_lst5, y_lst6, y_lst7, y_tup5, y_tup6, y_sl1, y_sl1i, y_sl2, y_sl2i, y_sl3, v_slF, v_slL, v_slT, w_0, w_1, y_part, y_sl1v, y_sl1b, y_sl1n, y_sl2v, y_sl2b, y_sl2n, v_isTT, v_isTI, v_isTB, v_isTS, v_isIT, v_isII, v_isIB, v_isIS, v_isBT, v_isBI, v_isBB, v_isBS, v_isST, v_isSI, v_isSB, v_isSS, v_isN, x_rev, x_join, x_fmt, x_fstr, x_zipS, y_rev, y_join1, y_join2, y_fmt, y_fstr, y_rtS, y_zipS1, y_zipS2, v_revL, List.getElem?_cons_zero, List.getElem?_cons_succ, List.set_cons_zero, List.set_cons_succ, decide_true, decide_false, Int.reduceEq, Int.reduceLT, Int.reduceLE, decide_eq_true_eq, Bool.not_true, Bool.not_false, if_true, if_false, Bool.false_eq_true, b_alike, v_zipST hl, hf]
        · simp only [e, if_false] at hf
          obtain ⟨env', hf⟩ := hf
          simp -implicitDefEqProofs only [x_var, y_var, x_con, x_glob, x_bin, x_neg, x_cmp, x_chain, x_isN, x_notN, x_and, x_and1, x_or, x_or1, x_not, x_ife, x_call, x_callP, x_bi, x_isi, x_listRg, x_ix, x_sl, x_tup, x_lst, x_comp, x_compIf, x_box, x_pop, x_popAt, x_append, x_nil, x_cons, x_seq, x_rng1, x_rng2, x_zip, x_asg, x_setix, x_aug, x_ex, x_if, x_for, x_while, x_ret, x_brk, x_cont, x_bnil, x_bcons, y_rt1, y_rtB, y_bin1, y_bin2, y_cmp1, y_cmp2, y_neg, y_isN, y_notN, y_andT, y_andF, y_orT, y_orF, y_not, y_ifT, y_ifF, y_chain1, y_chain2, y_chainT, y_chainF, y_chain3, y_cons1, y_cons2, y_call, y_callP, y_bi, y_isi, y_ix1, y_ix2, y_tup0, y_tup1, y_tup2, y_tup3, y_tup4, y_lst0, y_lst1, y_lst2, y_lst3, y_lc, y_box, y_pop, y_popAt1, y_popAt2, y_append1, y_append2, y_rtL, y_seq, y_seqT, y_seqL, y_rng21, y_zip1, y_zip2, y_zipT, y_zipL, y_rtE, y_asg, y_set1, y_set2, y_set3, y_aug, y_augA, y_augS, y_ex, y_ifST, y_ifSF, y_for, y_ret, y_nx, y_rt, y_bk, y_ct, y_fnR, y_fnN, y_nm, y_tp, y_tgn, y_tgc, y_tgk, v_add, v_sub, v_eqI, v_eqS, v_eqB, v_neI, v_neS, v_neB, v_lt, v_le, v_gt, v_ge, v_lenT, v_lenL, v_lenF, v_tupL, v_tupT, v_listL, v_listT, v_intI, v_intB, v_max, v_min, v_ixT, v_ixL, v_at0, v_at1, v_at2, y_lst4, y_lst5, y_lst6, y_lst7, y_tup5, y_tup6, y_sl1, y_sl1i, y_sl2, y_sl2i, y_sl3, v_slF, v_slL, v_slT, w_0, w_1, y_part, y_sl1v, y_sl1b, y_sl1n, y_sl2v, y_sl2b, y_sl2n, v_isTT, v_isTI, v_isTB, v_isTS, v_isIT, v_isII, v_isIB, v_isIS, v_isBT, v_isBI, v_isBB, v_isBS, v_isST, v_isSI, v_isSB, v_isSS, v_isN, x_rev, x_join, x_fmt, x_fstr, x_zipS, y_rev, y_join1, y_join2, y_fmt, y_fstr, y_rtS, y_zipS1, y_zipS2, v_revL, List.getElem?_cons_zero, List.getElem?_cons_succ, List.set_cons_zero, List.set_cons_succ, decide_true, decide_false, Int.reduceEq, Int.reduceLT, Int.reduceLE, decide_eq_true_eq, Bool.not_true, Bool.not_false, if_true, if_false, Bool.false_eq_true, b_alike, hli, v_zipST hl, hf, D.tup.injEq, e]
      · have hli : ((xs.length : Int) = (ys.length : Int)) = False := by simp only [eq_iff_iff, iff_false]; omega
        have e : ¬ xs = ys := fun e => hl (by rw [e])
        simp -implicitDefEqProofs only [x_var, y_var, x_con, x_glob, x_bin, x_neg, x_cmp, x_chain, x_isN, x_notN, x_and, x_and1, x_or, x_or1, x_not, x_ife, x_call, x_callP, x_bi, x_isi, x_listRg, x_ix, x_sl, x_tup, x_lst, x_comp, x_compIf, x_box, x_pop, x_popAt, x_append, x_nil, x_cons, x_seq, x_rng1, x_rng2, x_zip, x_asg, x_setix, x_aug, x_ex, x_if, x_for, x_while, x_ret, x_brk, x_cont, x_bnil, x_bcons, y_rt1, y_rtB, y_bin1, y_bin2, y_cmp1, y_cmp2, y_neg, y_isN, y_notN, y_andT, y_andF, y_orT, y_orF, y_not, y_ifT, y_ifF, y_chain1, y_chain2, y_chainT, y_chainF, y_chain3, y_cons1, y_cons2, y_call, y_callP, y_bi, y_isi, y_ix1, y_ix2, y_tup0, y_tup1, y_tup2, y_tup3, y_tup4, y_lst0, y_lst1, y_lst2, y_lst3, y_lc, y_box, y_pop, y_popAt1, y_popAt2, y_append1, y_append2, y_rtL, y_seq, y_seqT, y_seqL, y_rng21, y_zip1, y_zip2, y_zipT, y_zipL, y_rtE, y_asg, y_set1, y_set2, y_set3, y_aug, y_augA, y_augS, y_ex, y_ifST, y_ifSF, y_for, y_ret, y_nx, y_rt, y_bk, y_ct, y_fnR, y_fnN, y_nm, y_tp, y_tgn, y_tgc, y_tgk, v_add, v_sub, v_eqI, v_eqS, v_eqB, v_neI, v_neS, v_neB, v_lt, v_le, v_gt, v_ge, v_lenT, v_lenL, v_lenF, v_tupL, v_tupT, v_listL, v_listT, v_intI, v_intB, v_max, v_min, v_ixT, v_ixL, v_at0, v_at1, v_at2, y_lst4, y_lst5, y_lst6, y_lst7, y_tup5, y_tup6, y_sl1, y_sl1i, y_sl2, y_sl2i, y_sl3, v_slF, v_slL, v_slT, w_0, w_1, y_part, y_sl1v, y_sl1b, y_sl1n, y_sl2v, y_sl2b, y_sl2n, v_isTT, v_isTI, v_isTB, v_isTS, v_isIT, v_isII, v_isIB, v_isIS, v_isBT, v_isBI, v_isBB, v_isBS, v_isST, v_isSI, v_isSB, v_isSS, v_isN, x_rev, x_join, x_fmt, x_fstr, x_zipS, y_rev, y_join1, y_join2, y_fmt, y_fstr, y_rtS, y_zipS1, y_zipS2, v_revL, List.getElem?_cons_zero, List.getElem?_cons_succ, List.set_cons_zero, List.set_cons_succ, decide_true, decide_false, Int.reduceEq, Int.reduceLT, Int.reduceLE, decide_eq_true_eq, Bool.not_true, Bool.not_false, if_true, if_false, Bool.false_eq_true, b_alike, hli, D.tup.injEq, e]
    all_goals (simp -implicitDefEqProofs only [x_var, y_var, x_con, x_glob, x_bin, x_neg, x_cmp, x_chain, x_isN, x_notN, x_and, x_and1, x_or, x_or1, x_not, x_ife, x_call, x_callP, x_bi, x_isi, x_listRg, x_ix, x_sl, x_tup, x_lst, x_comp, x_compIf, x_box, x_pop, x_popAt, x_append, x_nil, x_cons, x_seq, x_rng1, x_rng2, x_zip, x_asg, x_setix, x_aug, x_ex, x_if, x_for, x_while, x_ret, x_brk, x_cont, x_bnil, x_bcons, y_rt1, y_rtB, y_bin1, y_bin2, y_cmp1, y_cmp2, y_neg, y_isN, y_notN, y_andT, y_andF, y_orT, y_orF, y_not, y_ifT, y_ifF, y_chain1, y_chain2, y_chainT, y_chainF, y_chain3, y_cons1, y_cons2, y_call, y_callP, y_bi, y_isi, y_ix1, y_ix2, y_tup0, y_tup1, y_tup2, y_tup3, y_tup4, y_lst0, y_lst1, y_lst2, y_lst3, y_lc, y_box, y_pop, y_popAt1, y_popAt2, y_append1, y_append2, y_rtL, y_seq, y_seqT, y_seqL, y_rng21, y_zip1, y_zip2, y_zipT, y_zipL, y_rtE, y_asg, y_set1, y_set2, y_set3, y_aug, y_augA, y_augS, y_ex, y_ifST, y_ifSF, y_for, y_ret, y_nx, y_rt, y_bk, y_ct, y_fnR, y_fnN, y_nm, y_tp, y_tgn, y_tgc, y_tgk, v_add, v_sub, v_eqI, v_eqS, v_eqB, v_neI, v_neS, v_neB, v_lt, v_le, v_gt, v_ge, v_lenT, v_lenL, v_lenF, v_tupL, v_tupT, v_listL, v_listT, v_intI, v_intB, v_max, v_min, v_ixT, v_ixL, v_at0, v_at1, v_at2, y_lst4, y_lst5, y_lst6, y_lst7, y_tup5, y_tup6, y_sl1, y_sl1i, y_sl2, y_sl2i, y_sl3, v_slF, v_slL, v_slT, w_0, w_1, y_part, y_sl1v, y_sl1b, y_sl1n, y_sl2v, y_sl2b, y_sl2n, v_isTT, v_isTI, v_isTB, v_isTS, v_isIT, v_isII, v_isIB, v_isIS, v_isBT, v_isBI, v_isBB, v_isBS, v_isST, v_isSI, v_isSB, v_isSS, v_isN, x_rev, x_join, x_fmt, x_fstr, x_zipS, y_rev, y_join1, y_join2, y_fmt, y_fstr, y_rtS, y_zipS1, y_zipS2, v_revL, List.getElem?_cons_zero, List.getElem?_cons_succ, List.set_cons_zero, List.set_cons_succ, decide_true, decide_false, Int.reduceEq, Int.reduceLT, Int.reduceLE, decide_eq_true_eq, Bool.not_true, Bool.not_false, if_true, if_false, Bool.false_eq_true, b_alike, bTT, bFF, bTF, bFT, Bool.not_true, Bool.not_false, reduceCtorEq, D.int.injEq, D.str.injEq, D.bl.injEq]; try simp [Bool.beq_eq_decide_eq])
theorem anew_ok {G : List D} : ∀ (n : Nat) (x : D) (m : M), okN n x = true → run tab G (n + 1) 10 [x] m = some (x, m) := by
  intro n
  induction n with
  | zero =>
    intro x m hx
    rw [run__law_anew, r__law_anew]
    cases x <;> first | (simp [okN] at hx; done) | skip
    all_goals simp -implicitDefEqProofs only [x_var, y_var, x_con, x_glob, x_bin, x_neg, x_cmp, x_chain, x_isN, x_notN, x_and, x_and1, x_or, x_or1, x_not, x_ife, x_call, x_callP, x_bi, x_isi, x_listRg, x_ix, x_sl, x_tup, x_lst, x_comp, x_compIf, x_box, x_pop, x_popAt, x_append, x_nil, x_cons, x_seq, x_rng1, x_rng2, x_zip, x_asg, x_setix, x_aug, x_ex, x_if, x_for, x_while, x_ret, x_brk, x_cont, x_bnil, x_bcons, y_rt1, y_rtB, y_bin1, y_bin2, y_cmp1, y_cmp2, y_neg, y_isN, y_notN, y_andT, y_andF, y_orT, y_orF, y_not, y_ifT, y_ifF, y_chain1, y_chain2, y_chainT, y_chainF, y_chain3, y_cons1, y_cons2, y_call, y_callP, y_bi, y_isi, y_ix1, y_ix2, y_tup0, y_tup1, y_tup2, y_tup3, y_tup4, y_lst0, y_lst1, y_lst2, y_lst3, y_lc, y_box, y_pop, y_popAt1, y_popAt2, y_append1, y_append2, y_rtL, y_seq, y_seqT, y_seqL, y_rng21, y_zip1, y_zip2, y_zipT, y_zipL, y_rtE, y_asg, y_set1, y_set2, y_set3, y_aug, y_augA, y_augS, y_ex, y_ifST, y_ifSF, y_for, y_ret, y_nx, y_rt, y_bk, y_ct, y_fnR, y_fnN, y_nm, y_tp, y_tgn, y_tgc, y_tgk, v_add, v_sub, v_eqI, v_eqS, v_eqB, v_neI, v_neS, v_neB, v_lt, v_le, v_gt, v_ge, v_lenT, v_lenL, v_lenF, v_tupL, v_tupT, v_listL, v_listT, v_intI, v_intB, v_max, v_min, v_ixT, v_ixL, v_at0, v_at1, v_at2, y_lst4, y_lst5, y_lst6, y_lst7, y_tup5, y_tup6, y_sl1, y_sl1i, y_sl2, y_sl2i, y_sl3, v_slF, v_slL, v_slT, w_0, w_1, y_part, y_sl1v, y_sl1b, y_sl1n, y_sl2v, y_sl2b, y_sl2n, v_isTT, v_isTI, v_isTB, v_isTS, v_isIT, v_isII, v_isIB, v_isIS, v_isBT, v_isBI, v_isBB, v_isBS, v_isST, v_isSI, v_isSB, v_isSS, v_isN, x_rev, x_join, x_fmt, x_fstr, x_zipS, y_rev, y_join1, y_join2, y_fmt, y_fstr, y_rtS, y_zipS1, y_zipS2, v_revL, List.getElem?_cons_zero, List.getElem?_cons_succ, List.set_cons_zero, List.set_cons_succ, decide_true, decide_false, Int.reduceEq, Int.reduceLT, Int.reduceLE, decide_eq_true_eq, Bool.not_true, Bool.not_false, if_true, if_false, Bool.false_eq_true, b__law_anew]
  | succ n ih =>
    intro x m hx
    rw [run__law_anew, r__law_anew]
    cases x <;> first | (simp [okN] at hx; done) | skip
    case tup xs =>
      have hx := okN_tup.mp hx
      simp -implicitDefEqProofs only [x_var, y_var, x_con, x_glob, x_bin, x_neg, x_cmp, x_chain, x_isN, x_notN, x_and, x_and1, x_or, x_or1, x_not, x_ife, x_call, x_callP, x_bi, x_isi, x_listRg, x_ix, x_sl, x_tup, x_lst, x_comp, x_compIf, x_box, x_pop, x_popAt, x_append, x_nil, x_cons, x_seq, x_rng1, x_rng2, x_zip, x_asg, x_setix, x_aug, x_ex, x_if, x_for, x_while, x_ret, x_brk, x_cont, x_bnil, x_bcons, y_rt1, y_rtB, y_bin1, y_bin2, y_cmp1, y_cmp2, y_neg, y_isN, y_notN, y_andT, y_andF, y_orT, y_orF, y_not, y_ifT, y_ifF, y_chain1, y_chain2, y_chainT, y_chainF, y_chain3, y_cons1, y_cons2, y_call, y_callP, y_bi, y_isi, y_ix1, y_ix2, y_tup0, y_tup1, y_tup2, y_tup3, y_tup4, y_lst0, y_lst1, y_lst2, y_lst3, y_lc, y_box, y_pop, y_popAt1, y_popAt2, y_append1, y_append2, y_rtL, y_seq, y_seqT, y_seqL, y_rng21, y_zip1, y_zip2, y_zipT, y_zipL, y_rtE, y_asg, y_set1, y_set2, y_set3, y_aug, y_augA, y_augS, y_ex, y_ifST, y_ifSF, y_for, y_ret, y_nx, y_rt, y_bk, y_ct, y_fnR, y_fnN, y_nm, y_tp, y_tgn, y_tgc, y_tgk, v_add, v_sub, v_eqI, v_eqS, v_eqB, v_neI, v_neS, v_neB, v_lt, v_le, v_gt, v_ge, v_lenT, v_lenL, v_lenF, v_tupL, v_tupT, v_listL, v_listT, v_intI, v_intB, v_max, v_min, v_ixT, v_ixL, v_at0, v_at1, v_at2, y_lst4, y_lst5, y_lst6, y_lst7, y_tup5, y_tup6, y_sl1, y_sl1i, y_sl2, y_sl2i, y_sl3, v_slF, v_slL, v_slT, w_0, w_1, y_part, y_sl1v, y_sl1b, y_sl1n, y_sl2v, y_sl2b, y_sl2n, v_isTT, v_isTI, v_isTB, v_isTS, v_isIT, v_isII, v_isIB, v_isIS, v_isBT, v_isBI, v_isBB, v_isBS, v_isST, v_isSI, v_isSB, v_isSS, v_isN, x_rev, x_join, x_fmt, x_fstr, x_zipS, y_rev, y_join1, y_join2, y_fmt, y_fstr, y_rtS, y_zipS1, y_zipS2, v_revL, List.getElem?_cons_zero, List.getElem?_cons_succ, List.set_cons_zero, List.set_cons_succ, decide_true, decide_false, Int.reduceEq, Int.reduceLT, Int.reduceLE, decide_eq_true_eq, Bool.not_true, Bool.not_false, if_true, if_false, Bool.false_eq_true, b__law_anew, y_comp (show xs.length ≤ lim from lim10 (by omega))]
      rw [Pv.comp_map id]
      · simp -implicitDefEqProofs only [x_var, y_var, x_con, x_glob, x_bin, x_neg, x_cmp, x_chain, x_isN, x_notN, x_and, x_and1, x_or, x_or1, x_not, x_ife, x_call, x_callP, x_bi, x_isi, x_listRg, x_ix, x_sl, x_tup, x_lst, x_comp, x_compIf, x_box, x_pop, x_popAt, x_append, x_nil, x_cons, x_seq, x_rng1, x_rng2, x_zip, x_asg, x_setix, x_aug, x_ex, x_if, x_for, x_while, x_ret, x_brk, x_cont, x_bnil, x_bcons, y_rt1, y_rtB, y_bin1, y_bin2, y_cmp1, y_cmp2, y_neg, y_isN, y_notN, y_andT, y_andF, y_orT, y_orF, y_not, y_ifT, y_ifF, y_chain1, y_chain2, y_chainT, y_chainF, y_chain3, y_cons1, y_cons2, y_call, y_callP, y_bi, y_isi, y_ix1, y_ix2, y_tup0, y_tup1, y_tup2, y_tup3, y_tup4, y_lst0, y_lst1, y_lst2, y_lst3, y_lc, y_box, y_pop, y_popAt1, y_popAt2, y_append1, y_append2, y_rtL, y_seq, y_seqT, y_seqL, y_rng21, y_zip1, y_zip2, y_zipT, y_zipL, y_rtE, y_asg, y_set1, y_set2, y_set3, y_aug, y_augA, y_augS, y_ex, y_ifST, y_ifSF, y_for, y_ret, y_nx, y_rt, y_bk, y_ct, y_fnR, y_fnN, y_nm, y_tp, y_tgn, y_tgc, y_tgk, v_add, v_sub, v_eqI, v_eqS, v_eqB, v_neI, v_neS, v_neB, v_lt, v_le, v_gt, v_ge, v_lenT, v_lenL, v_lenF, v_tupL, v_tupT, v_listL, v_listT, v_intI, v_intB, v_max, v_min, v_ixT, v_ixL, v_at0, v_at1, v_at2, y_lst4, y_lst5, y_lst6, y_lst7, y_tup5, y_tup6, y_sl1, y_sl1i, y_sl2, y_sl2i, y_sl3, v_slF, v_slL, v_slT, w_0, w_1, y_part, y_sl1v, y_sl1b, y_sl1n, y_sl2v, y_sl2b, y_sl2n, v_isTT, v_isTI, v_isTB, v_isTS, v_isIT, v_isII, v_isIB, v_isIS, v_isBT, v_isBI, v_isBB, v_isBS, v_isST, v_isSI, v_isSB, v_isSS, v_isN, x_rev, x_join, x_fmt, x_fstr, x_zipS, y_rev, y_join1, y_join2, y_fmt, y_fstr, y_rtS, y_zipS1, y_zipS2, v_revL, List.getElem?_cons_zero, List.getElem?_cons_succ, List.set_cons_zero, List.set_cons_succ, decide_true, decide_false, Int.reduceEq, Int.reduceLT, Int.reduceLE, decide_eq_true_eq, Bool.not_true, Bool.not_false, if_true, if_false, Bool.false_eq_true, List.map_id]
      · intro y hy
        refine ⟨_, y_nm, ?_⟩
        simp -implicitDefEqProofs only [x_var, y_var, x_con, x_glob, x_bin, x_neg, x_cmp, x_chain, x_isN, x_notN, x_and, x_and1, x_or, x_or1, x_not, x_ife, x_call, x_callP, x_bi, x_isi, x_listRg, x_ix, x_sl, x_tup, x_lst, x_comp, x_compIf, x_box, x_pop, x_popAt, x_append, x_nil, x_cons, x_seq, x_rng1, x_rng2, x_zip, x_asg, x_setix, x_aug, x_ex, x_if, x_for, x_while, x_ret, x_brk, x_cont, x_bnil, x_bcons, y_rt1, y_rtB, y_bin1, y_bin2, y_cmp1, y_cmp2, y_neg, y_isN, y_notN, y_andT, y_andF, y_orT, y_orF, y_not, y_ifT, y_ifF, y_chain1, y_chain2, y_chainT, y_chainF, y_chain3, y_cons1, y_cons2, y_call, y_callP, y_bi, y_isi, y_ix1, y_ix2, y_tup0, y_tup1, y_tup2, y_tup3, y_tup4, y_lst0, y_lst1, y_lst2, y_lst3, y_lc, y_box, y_pop, y_popAt1, y_popAt2, y_append1, y_append2, y_rtL, y_seq, y_seqT, y_seqL, y_rng21, y_zip1, y_zip2, y_zipT, y_zipL, y_rtE, y_asg, y_set1, y_set2, y_set3, y_aug, y_augA, y_augS, y_ex, y_ifST, y_ifSF, y_for, y_ret, y_nx, y_rt, y_bk, y_ct, y_fnR, y_fnN, y_nm, y_tp, y_tgn, y_tgc, y_tgk, v_add, v_sub, v_eqI, v_eqS, v_eqB, v_neI, v_neS, v_neB, v_lt, v_le, v_gt, v_ge, v_lenT, v_lenL, v_lenF, v_tupL, v_tupT, v_listL, v_listT, v_intI, v_intB, v_max, v_min, v_ixT, v_ixL, v_at0, v_at1, v_at2, y_lst4, y_lst5, y_lst6, y_lst7, y_tup5, y_tup6, y_sl1, y_sl1i, y_sl2, y_sl2i, y_sl3, v_slF, v_slL, v_slT, w_0, w_1, y_part, y_sl1v, y_sl1b, y_sl1n, y_sl2v, y_sl2b, y_sl2n, v_isTT, v_isTI, v_isTB, v_isTS, v_isIT, v_isII, v_isIB, v_isIS, v_isBT, v_isBI, v_isBB, v_isBS, v_isST, v_isSI, v_isSB, v_isSS, v_isN, x_rev, x_join, x_fmt, x_fstr, x_zipS, y_rev, y_join1, y_join2, y_fmt, y_fstr, y_rtS, y_zipS1, y_zipS2, v_revL, List.getElem?_cons_zero, List.getElem?_cons_succ, List.set_cons_zero, List.set_cons_succ, decide_true, decide_false, Int.reduceEq, Int.reduceLT, Int.reduceLE, decide_eq_true_eq, Bool.not_true, Bool.not_false, if_true, if_false, Bool.false_eq_true, ih y m (hx.2 y hy), y_pure (okN_pure (hx.2 y hy)).1, id]
    all_goals simp -implicitDefEqProofs only [x_var, y_var, x_con, x_glob, x_bin, x_neg, x_cmp, x_chain, x_isN, x_notN, x_and, x_and1, x_or, x_or1, x_not, x_ife, x_call, x_callP, x_bi, x_isi, x_listRg, x_ix, x_sl, x_tup, x_lst, x_comp, x_compIf, x_box, x_pop, x_popAt, x_append, x_nil, x_cons, x_seq, x_rng1, x_rng2, x_zip, x_asg, x_setix, x_aug, x_ex, x_if, x_for, x_while, x_ret, x_brk, x_cont, x_bnil, x_bcons, y_rt1, y_rtB, y_bin1, y_bin2, y_cmp1, y_cmp2, y_neg, y_isN, y_notN, y_andT, y_andF, y_orT, y_orF, y_not, y_ifT, y_ifF, y_chain1, y_chain2, y_chainT, y_chainF, y_chain3, y_cons1, y_cons2, y_call, y_callP, y_bi, y_isi, y_ix1, y_ix2, y_tup0, y_tup1, y_tup2, y_tup3, y_tup4, y_lst0, y_lst1, y_lst2, y_lst3, y_lc, y_box, y_pop, y_popAt1, y_popAt2, y_append1, y_append2, y_rtL, y_seq, y_seqT, y_seqL, y_rng21, y_zip1, y_zip2, y_zipT, y_zipL, y_rtE, y_asg, y_set1, y_set2, y_set3, y_aug, y_augA, y_augS, y_ex, y_ifST, y_ifSF, y_for, y_ret, y_nx, y_rt, y_bk, y_ct, y_fnR, y_fnN, y_nm, y_tp, y_tgn, y_tgc, y_tgk, v_add, v_sub, v_eqI, v_eqS, v_eqB, v_neI, v_neS, v_neB, v_lt, v_le, v_gt, v_ge, v_lenT, v_lenL, v_lenF, v_tupL, v_tupT, v_listL, v_listT, v_intI, v_intB, v_max, v_min, v_ixT, v_ixL, v_at0, v_at1, v_at2, y_lst4, y_lst5, y_lst6, y_lst7, y_tup5, y_tup6, y_sl1, y_sl1i, y_sl2, y_sl2i, y_sl3, v_slF, v_slL, v_slT, w_0, w_1, y_part, y_sl1v, y_sl1b, y_sl1n, y_sl2v, y_sl2b, y_sl2n, v_isTT, v_isTI, v_isTB, v_isTS, v_isIT, v_isII, v_isIB, v_isIS, v_isBT, v_isBI, v_isBB, v_isBS, v_isST, v_isSI, v_isSB, v_isSS, v_isN, x_rev, x_join, x_fmt, x_fstr, x_zipS, y_rev, y_join1, y_join2, y_fmt, y_fstr, y_rtS, y_zipS1, y_zipS2, v_revL, List.getElem?_cons_zero, List.getElem?_cons_succ, List.set_cons_zero, List.set_cons_succ, decide_true, decide_false, Int.reduceEq, Int.reduceLT, Int.reduceLE, decide_eq_true_eq, Bool.not_true, Bool.not_false, if_true, if_false, Bool.false_eq_true, b__law_anew]
end Lw

namespace Lw
open PySem Pv
theorem pures_okN {n : Nat} {l : List D} (h : ∀ x ∈ l, okN n x = true) : pures l = true ∧ PyData.canLayAll0 (toPs l) = true := by
  induction l with
  | nil => exact ⟨rfl, by simp [toPs, PyData.canLayAll0]⟩
  | cons x r ih =>
    have a := okN_pure (h x List.mem_cons_self)
    have b := ih fun y hy => h y (List.mem_cons_of_mem _ hy)
    exact ⟨by rw [pures, a.1, b.1]; rfl, by rw [toPs, PyData.canLayAll0, a.2, b.2]; rfl⟩
theorem popR {m : M} {l : Nat} {xs : List D} {y : D} (h : m[l]? = some (.lst (xs ++ [y]))) : popM m (.ref l) = some (y, m.set l (.lst xs)) := by
  simp only [popM, h]
  have e : (xs ++ [y])[(xs ++ [y]).length - 1]? = some y := by simp
  rw [e]
  simp
theorem catR {m : M} {l : Nat} {xs ys : List D} (h : m[l]? = some (.lst xs)) (hl : xs.length + ys.length ≤ lim) : bopD m .add (.ref l) (.lst ys) = some (.lst (xs ++ ys)) := by
  show (match deref m (.ref l), deref m (.lst ys) with | D.lst a, D.lst b => if a.length + b.length ≤ lim then some (D.lst (a ++ b)) else none | _, _ => none) = _
  have e : deref m (.ref l) = .lst xs := by simp only [deref, h]
  have e2 : deref m (.lst ys) = .lst ys := rfl
  rw [e, e2]
  simp only [hl, if_true]
theorem set_right {m g : M} {l : Nat} {v : MO} (h : m.length ≤ l) : (m ++ g).set l v = m ++ g.set (l - m.length) v := by
  rw [List.set_append_right _ _ h]
theorem get_set_right {m g : M} {l : Nat} {v u : MO} (h : m.length ≤ l) (hm : (m ++ g)[l]? = some u) : (m ++ g.set (l - m.length) v)[l]? = some v := by
  rw [← set_right h]
  have hl : l < (m ++ g).length := by
    rcases Nat.lt_or_ge l (m ++ g).length with q | q
    · exact q
    · rw [List.getElem?_eq_none q] at hm; cases hm
  exact List.getElem?_set_self hl
theorem nil_or_end {α : Type} (l : List α) : l = [] ∨ ∃ L q, l = L ++ [q] := by
  rcases List.eq_nil_or_concat l with h | ⟨L, q, h⟩
  · exact .inl h
  · exact .inr ⟨L, q, by rw [h, List.concat_eq_append]⟩
abbrev pr (p : D × D) : D := .tup [p.1, p.2]
def szp (hs : List (D × D)) : Nat := (hs.map fun p => sz p.1).sum
theorem szp_app {a b : List (D × D)} : szp (a ++ b) = szp a + szp b := by simp [szp]
theorem szp_zip : ∀ {xs ys : List D}, xs.length = ys.length → szp (xs.zip ys) = szs xs
  | [], [], _ => rfl
  | [], _ :: _, h => by simp at h
  | _ :: _, [], h => by simp at h
  | x :: xs, y :: ys, h => by
    have ih := szp_zip (xs := xs) (ys := ys) (by simpa using h)
    simp only [szp, List.zip_cons_cons, List.map_cons, List.sum_cons, szs] at ih ⊢
    omega
theorem szp_len (hs : List (D × D)) : hs.length ≤ szp hs := by
  induction hs with
  | nil => simp
  | cons p hs ih =>
    have := sz_pos p.1
    simp only [szp, List.map_cons, List.sum_cons, List.length_cons] at ih ⊢
    omega
theorem zip_all : ∀ {xs ys : List D}, xs.length = ys.length → ((∀ p ∈ xs.zip ys, p.1 = p.2) ↔ xs = ys)
  | [], [], _ => by simp
  | [], _ :: _, h => by simp at h
  | _ :: _, [], h => by simp at h
  | x :: xs, y :: ys, h => by
    have ih := zip_all (xs := xs) (ys := ys) (by simpa using h)
    simp only [List.zip_cons_cons, List.forall_mem_cons, ih, List.cons.injEq]
/-- the pairs by their number -/
theorem zip_rng {xs ys : List D} (h : xs.length = ys.length) : (rangeD 0 xs.length).map (fun d => match d with | .int i => D.tup [xs.getD i.toNat .non, ys.getD i.toNat .non] | _ => .non) = (xs.zip ys).map pr := by
  apply List.ext_getElem
  · simp [rangeD, h]
  · intro i h1 h2
    simp only [rangeD, List.length_map, List.length_range] at h1
    have h2' : i < ys.length := by omega
    simp [rangeD, h1, h2', pr]
theorem same_ok {G : List D} {n k : Nat} {x y : D} (hx : okN n x = true) (hy : okN n y = true) (hs : sz x < 900000) (m : M) :
    ∃ g, run tab G (k + 1) 3 [x, y] m = some (.bl (decide (x = y)), m ++ g) := by
  rw [run__law_same, r__law_same]
  have W := while_ok (tc := evE (run tab G k) G (.cmp .ne (.var 2) (.lst .nil))) (tb := evB (run tab G k) G l__law_same_0)
    (fun j env mm => ∃ g l hs a b, env = [some x, some y, some (.ref l), a, b, none] ∧ mm = m ++ g ∧ m.length ≤ l ∧ mm[l]? = some (.lst (hs.map pr)) ∧ (∀ p ∈ hs, okN n p.1 = true ∧ okN n p.2 = true) ∧ (x = y ↔ ∀ p ∈ hs, p.1 = p.2) ∧ j = szp hs ∧ szp hs < 900000)
    (fun r => (x = y ∧ ∃ env g, r = some (.nx, env, m ++ g)) ∨ (x ≠ y ∧ ∃ env g, r = some (.rt (.bl false), env, m ++ g))) (by
      rintro j env mm ⟨g, l, hs, a, b, rfl, rfl, hl, hm, hok, hiff, rfl, hz⟩
      have hp : pures (hs.map pr) = true ∧ PyData.canLayAll0 (toPs (hs.map pr)) = true := pures_okN (n := n + 1) (by
        intro d hd
        obtain ⟨p, hp, rfl⟩ := List.mem_map.mp hd
        have := hok p hp
        rw [okN_tup]
        exact ⟨by simp, by simp [this.1, this.2]⟩)
      have tc := ne_nilR hm hp
      rcases nil_or_end hs with rfl | ⟨hs', ⟨l1, r1⟩, rfl⟩
      · refine .inl ⟨m ++ g, ?_, .inl ⟨hiff.mpr (by simp), _, _, rfl⟩⟩
        simp -implicitDefEqProofs only [x_var, y_var, x_con, x_glob, x_bin, x_neg, x_cmp, x_chain, x_isN, x_notN, x_and, x_and1, x_or, x_or1, x_not, x_ife, x_call, x_callP, x_bi, x_isi, x_listRg, x_ix, x_sl, x_tup, x_lst, x_comp, x_compIf, x_box, x_pop, x_popAt, x_append, x_nil, x_cons, x_seq, x_rng1, x_rng2, x_zip, x_asg, x_setix, x_aug, x_ex, x_if, x_for, x_while, x_ret, x_brk, x_cont, x_bnil, x_bcons, y_rt1, y_rtB, y_bin1, y_bin2, y_cmp1, y_cmp2, y_neg, y_isN, y_notN, y_andT, y_andF, y_orT, y_orF, y_not, y_ifT, y_ifF, y_chain1, y_chain2, y_chainT, y_chainF, y_chain3, y_cons1, y_cons2, y_call, y_callP, y_bi, y_isi, y_ix1, y_ix2, y_tup0, y_tup1, y_tup2, y_tup3, y_tup4, y_lst0, y_lst1, y_lst2, y_lst3, y_lc, y_box, y_pop, y_popAt1, y_popAt2, y_append1, y_append2, y_rtL, y_seq, y_seqT, y_seqL, y_rng21, y_zip1, y_zip2, y_zipT, y_zipL, y_rtE, y_asg, y_set1, y_set2, y_set3, y_aug, y_augA, y_augS, y_ex, y_ifST, y_ifSF, y_for, y_ret, y_nx, y_rt, y_bk, y_ct, y_fnR, y_fnN, y_nm, y_tp, y_tgn, y_tgc, y_tgk, v_add, v_sub, v_eqI, v_eqS, v_eqB, v_neI, v_neS, v_neB, v_lt, v_le, v_gt, v_ge, v_lenT, v_lenL, v_lenF, v_tupL, v_tupT, v_listL, v_listT, v_intI, v_intB, v_max, v_min, v_ixT, v_ixL, v_at0, v_at1, v_at2, y_lst4, y_lst5, y_lst6, y_lst7, y_tup5, y_tup6, y_sl1, y_sl1i, y_sl2, y_sl2i, y_sl3, v_slF, v_slL, v_slT, w_0, w_1, y_part, y_sl1v, y_sl1b, y_sl1n, y_sl2v, y_sl2b, y_sl2n, v_isTT, v_isTI, v_isTB, v_isTS, v_isIT, v_isII, v_isIB, v_isIS, v_isBT, v_isBI, v_isBB, v_isBS, v_isST, v_isSI, v_isSB, v_isSS, v_isN, x_rev, x_join, x_fmt, x_fstr, x_zipS, y_rev, y_join1, y_join2, y_fmt, y_fstr, y_rtS, y_zipS1, y_zipS2, v_revL, List.getElem?_cons_zero, List.getElem?_cons_succ, List.set_cons_zero, List.set_cons_succ, decide_true, decide_false, Int.reduceEq, Int.reduceLT, Int.reduceLE, decide_eq_true_eq, Bool.not_true, Bool.not_false, if_true, if_false, Bool.false_eq_true, tc, List.map_nil, List.isEmpty_nil]
      · refine .inr ?_
        have tc2 : evE (run tab G k) G (.cmp .ne (.var 2) (.lst .nil)) [some x, some y, some (.ref l), a, b, none] (m ++ g) = some (.bl true, m ++ g) := by
          have : ((hs' ++ [(l1, r1)]).map pr).isEmpty = false := by simp
          simp -implicitDefEqProofs only [x_var, y_var, x_con, x_glob, x_bin, x_neg, x_cmp, x_chain, x_isN, x_notN, x_and, x_and1, x_or, x_or1, x_not, x_ife, x_call, x_callP, x_bi, x_isi, x_listRg, x_ix, x_sl, x_tup, x_lst, x_comp, x_compIf, x_box, x_pop, x_popAt, x_append, x_nil, x_cons, x_seq, x_rng1, x_rng2, x_zip, x_asg, x_setix, x_aug, x_ex, x_if, x_for, x_while, x_ret, x_brk, x_cont, x_bnil, x_bcons, y_rt1, y_rtB, y_bin1, y_bin2, y_cmp1, y_cmp2, y_neg, y_isN, y_notN, y_andT, y_andF, y_orT, y_orF, y_not, y_ifT, y_ifF, y_chain1, y_chain2, y_chainT, y_chainF, y_chain3, y_cons1, y_cons2, y_call, y_callP, y_bi, y_isi, y_ix1, y_ix2, y_tup0, y_tup1, y_tup2, y_tup3, y_tup4, y_lst0, y_lst1, y_lst2, y_lst3, y_lc, y_box, y_pop, y_popAt1, y_popAt2, y_append1, y_append2, y_rtL, y_seq, y_seqT, y_seqL, y_rng21, y_zip1, y_zip2, y_zipT, y_zipL, y_rtE, y_asg, y_set1, y_set2, y_set3, y_aug, y_augA, y_augS, y_ex, y_ifST, y_ifSF, y_for, y_ret, y_nx, y_rt, y_bk, y_ct, y_fnR, y_fnN, y_nm, y_tp, y_tgn, y_tgc, y_tgk, v_add, v_sub, v_eqI, v_eqS, v_eqB, v_neI, v_neS, v_neB, v_lt, v_le, v_gt, v_ge, v_lenT, v_lenL, v_lenF, v_tupL, v_tupT, v_listL, v_listT, v_intI, v_intB, v_max, v_min, v_ixT, v_ixL, v_at0, v_at1, v_at2, y_lst4, y_lst5, y_lst6, y_lst7, y_tup5, y_tup6, y_sl1, y_sl1i, y_sl2, y_sl2i, y_sl3, v_slF, v_slL, v_slT, w_0, w_1, y_part, y_sl1v, y_sl1b, y_sl1n, y_sl2v, y_sl2b, y_sl2n, v_isTT, v_isTI, v_isTB, v_isTS, v_isIT, v_isII, v_isIB, v_isIS, v_isBT, v_isBI, v_isBB, v_isBS, v_isST, v_isSI, v_isSB, v_isSS, v_isN, x_rev, x_join, x_fmt, x_fstr, x_zipS, y_rev, y_join1, y_join2, y_fmt, y_fstr, y_rtS, y_zipS1, y_zipS2, v_revL, List.getElem?_cons_zero, List.getElem?_cons_succ, List.set_cons_zero, List.set_cons_succ, decide_true, decide_false, Int.reduceEq, Int.reduceLT, Int.reduceLE, decide_eq_true_eq, Bool.not_true, Bool.not_false, if_true, if_false, Bool.false_eq_true, tc, this]
        have hm' : (m ++ g)[l]? = some (.lst (hs'.map pr ++ [.tup [l1, r1]])) := by rw [hm, List.map_append]; rfl
        have pp := popR hm'
        rw [set_right hl] at pp
        have hml := get_set_right (v := .lst (hs'.map pr)) hl hm'
        have hokq := hok (l1, r1) (by simp)
        have hok' : ∀ p ∈ hs', okN n p.1 = true ∧ okN n p.2 = true := fun p hp => hok p (List.mem_append_left _ hp)
        have hz2 : szp (hs' ++ [(l1, r1)]) = szp hs' + sz l1 := by rw [szp_app]; simp [szp]
        have hall : (∀ p ∈ hs' ++ [(l1, r1)], p.1 = p.2) ↔ (∀ p ∈ hs', p.1 = p.2) ∧ l1 = r1 := by
          constructor
          · intro h; exact ⟨fun p hp => h p (List.mem_append_left _ hp), h (l1, r1) (by simp)⟩
          · rintro ⟨h1, h2⟩ p hp
            rcases List.mem_append.mp hp with hp | hp
            · exact h1 p hp
            · rw [List.mem_singleton.mp hp]; exact h2
        have hpos := sz_pos l1
        -- what goes on, what ends
        have go : ∀ {a b}, l1 = r1 → evB (run tab G k) G l__law_same_0 [some x, some y, some (.ref l), a, b, none] (m ++ g) = some (.nx, [some x, some y, some (.ref l), some l1, some r1, none], m ++ g.set (l - m.length) (.lst (hs'.map pr))) →
            (∃ m1 e2 m2, evE (run tab G k) G (.cmp .ne (.var 2) (.lst .nil)) [some x, some y, some (.ref l), a, b, none] (m ++ g) = some (.bl true, m1) ∧ evB (run tab G k) G l__law_same_0 [some x, some y, some (.ref l), a, b, none] m1 = some (.nx, e2, m2) ∧ ∃ j, j < szp (hs' ++ [(l1, r1)]) ∧ ∃ g l hs a b, e2 = [some x, some y, some (.ref l), a, b, none] ∧ m2 = m ++ g ∧ m.length ≤ l ∧ m2[l]? = some (.lst (hs.map pr)) ∧ (∀ p ∈ hs, okN n p.1 = true ∧ okN n p.2 = true) ∧ (x = y ↔ ∀ p ∈ hs, p.1 = p.2) ∧ j = szp hs ∧ szp hs < 900000) := by
          intro a b he hb
          refine ⟨m ++ g, _, _, ?_, hb, szp hs', by omega, _, l, hs', _, _, rfl, rfl, hl, hml, hok', ?_, rfl, by omega⟩
          · have t := ne_nilR hm hp
            have : ((hs' ++ [(l1, r1)]).map pr).isEmpty = false := by simp
            simp -implicitDefEqProofs only [x_var, y_var, x_con, x_glob, x_bin, x_neg, x_cmp, x_chain, x_isN, x_notN, x_and, x_and1, x_or, x_or1, x_not, x_ife, x_call, x_callP, x_bi, x_isi, x_listRg, x_ix, x_sl, x_tup, x_lst, x_comp, x_compIf, x_box, x_pop, x_popAt, x_append, x_nil, x_cons, x_seq, x_rng1, x_rng2, x_zip, x_asg, x_setix, x_aug, x_ex, x_if, x_for, x_while, x_ret, x_brk, x_cont, x_bnil, x_bcons, y_rt1, y_rtB, y_bin1, y_bin2, y_cmp1, y_cmp2, y_neg, y_isN, y_notN, y_andT, y_andF, y_orT, y_orF, y_not, y_ifT, y_ifF, y_chain1, y_chain2, y_chainT, y_chainF, y_chain3, y_cons1, y_cons2, y_call, y_callP, y_bi, y_isi, y_ix1, y_ix2, y_tup0, y_tup1, y_tup2, y_tup3, y_tup4, y_lst0, y_lst1, y_lst2, y_lst3, y_lc, y_box, y_pop, y_popAt1, y_popAt2, y_append1, y_append2, y_rtL, y_seq, y_seqT, y_seqL, y_rng21, y_zip1, y_zip2, y_zipT, y_zipL, y_rtE, y_asg, y_set1, y_set2, y_set3, y_aug, y_augA, y_augS, y_ex, y_ifST, y_ifSF, y_for, y_ret, y_nx, y_rt, y_bk, y_ct, y_fnR, y_fnN, y_nm, y_tp, y_tgn, y_tgc, y_tgk, v_add, v_sub, v_eqI, v_eqS, v_eqB, v_neI, v_neS, v_neB, v_lt, v_le, v_gt, v_ge, v_lenT, v_lenL, v_lenF, v_tupL, v_tupT, v_listL, v_listT, v_intI, v_intB, v_max, v_min, v_ixT, v_ixL, v_at0, v_at1, v_at2, y_lst4, y_lst5, y_lst6, y_lst7, y_tup5, y_tup6, y_sl1, y_sl1i, y_sl2, y_sl2i, y_sl3, v_slF, v_slL, v_slT, w_0, w_1, y_part, y_sl1v, y_sl1b, y_sl1n, y_sl2v, y_sl2b, y_sl2n, v_isTT, v_isTI, v_isTB, v_isTS, v_isIT, v_isII, v_isIB, v_isIS, v_isBT, v_isBI, v_isBB, v_isBS, v_isST, v_isSI, v_isSB, v_isSS, v_isN, x_rev, x_join, x_fmt, x_fstr, x_zipS, y_rev, y_join1, y_join2, y_fmt, y_fstr, y_rtS, y_zipS1, y_zipS2, v_revL, List.getElem?_cons_zero, List.getElem?_cons_succ, List.set_cons_zero, List.set_cons_succ, decide_true, decide_false, Int.reduceEq, Int.reduceLT, Int.reduceLE, decide_eq_true_eq, Bool.not_true, Bool.not_false, if_true, if_false, Bool.false_eq_true, t, this]
          · rw [hiff, hall]
            exact ⟨fun h => h.1, fun h => ⟨h, he⟩⟩
        have no : l1 ≠ r1 → x ≠ y := fun h e => h ((hall.mp (hiff.mp e)).2)
        have fin : ∀ {R : Prop}, l1 ≠ r1 → evB (run tab G k) G l__law_same_0 [some x, some y, some (.ref l), a, b, none] (m ++ g) = some (.rt (.bl false), [some x, some y, some (.ref l), some l1, some r1, none], m ++ g.set (l - m.length) (.lst (hs'.map pr))) →
            (R ∨ ∃ m1 d e2 m2, evE (run tab G k) G (.cmp .ne (.var 2) (.lst .nil)) [some x, some y, some (.ref l), a, b, none] (m ++ g) = some (.bl true, m1) ∧ evB (run tab G k) G l__law_same_0 [some x, some y, some (.ref l), a, b, none] m1 = some (.rt d, e2, m2) ∧ ((x = y ∧ ∃ env g, (some (Fl.rt d, e2, m2) : Pv.R) = some (.nx, env, m ++ g)) ∨ (x ≠ y ∧ ∃ env g, (some (Fl.rt d, e2, m2) : Pv.R) = some (.rt (.bl false), env, m ++ g)))) := by
          intro R he hb
          exact .inr ⟨m ++ g, .bl false, _, _, tc2, hb, .inr ⟨no he, _, _, rfl⟩⟩
        cases l1 <;> cases r1
        case tup.tup xs ys =>
          by_cases hlen : xs.length = ys.length
          · cases n with
            | zero => exact absurd hokq.1 (by simp [okN])
            | succ n =>
            have h1 := okN_tup.mp hokq.1
            have h2 := okN_tup.mp hokq.2
            have hlr : (rangeD 0 xs.length).length ≤ lim := by rw [rangeD_len]; exact lim10 (by omega)
            have cm : compL (.nm 5) [some x, some y, some (.ref l), some (.tup xs), some (.tup ys), none] (evE (run tab G k) G (.tup (.cons (.ix (.var 3) (.var 5)) (.cons (.ix (.var 4) (.var 5)) .nil)))) (rangeD 0 xs.length) (m ++ g.set (l - m.length) (.lst (hs'.map pr))) = some ((xs.zip ys).map pr, m ++ g.set (l - m.length) (.lst (hs'.map pr))) := by
              rw [← zip_rng hlen, Pv.comp_map]
              intro d hd
              obtain ⟨i, hi, rfl⟩ : ∃ i : Nat, i < xs.length ∧ d = .int i := by
                simp only [rangeD] at hd
                obtain ⟨i, hi, rfl⟩ := List.mem_map.mp hd
                exact ⟨i, List.mem_range.mp hi, by simp⟩
              refine ⟨_, y_nm, ?_⟩
              have e1 : atD xs (i : Int) = some xs[i] := atD_nat (by simp [hi])
              have hi' : i < ys.length := by omega
              have e2 : atD ys (i : Int) = some ys[i] := atD_nat (by simp [hi'])
              simp -implicitDefEqProofs only [x_var, y_var, x_con, x_glob, x_bin, x_neg, x_cmp, x_chain, x_isN, x_notN, x_and, x_and1, x_or, x_or1, x_not, x_ife, x_call, x_callP, x_bi, x_isi, x_listRg, x_ix, x_sl, x_tup, x_lst, x_comp, x_compIf, x_box, x_pop, x_popAt, x_append, x_nil, x_cons, x_seq, x_rng1, x_rng2, x_zip, x_asg, x_setix, x_aug, x_ex, x_if, x_for, x_while, x_ret, x_brk, x_cont, x_bnil, x_bcons, y_rt1, y_rtB, y_bin1, y_bin2, y_cmp1, y_cmp2, y_neg, y_isN, y_notN, y_andT, y_andF, y_orT, y_orF, y_not, y_ifT, y_ifF, y_chain1, y_chain2, y_chainT, y_chainF, y_chain3, y_cons1, y_cons2, y_call, y_callP, y_bi, y_isi, y_ix1, y_ix2, y_tup0, y_tup1, y_tup2, y_tup3, y_tup4, y_lst0, y_lst1, y_lst2, y_lst3, y_lc, y_box, y_pop, y_popAt1, y_popAt2, y_append1, y_append2, y_rtL, y_seq, y_seqT, y_seqL, y_rng21, y_zip1, y_zip2, y_zipT, y_zipL, y_rtE, y_asg, y_set1, y_set2, y_set3, y_aug, y_augA, y_augS, y_ex, y_ifST, y_ifSF, y_for, y_ret, y_nx, y_rt, y_bk, y_ct, y_fnR, y_fnN, y_nm, y_tp, y_tgn, y_tgc, y_tgk, v_add, v_sub, v_eqI, v_eqS, v_eqB, v_neI, v_neS, v_neB, v_lt, v_le, v_gt, v_ge, v_lenT, v_lenL, v_lenF, v_tupL, v_tupT, v_listL, v_listT, v_intI, v_intB, v_max, v_min, v_ixT, v_ixL, v_at0, v_at1, v_at2, y_lst4, y_lst5, y_lst6, y_lst7, y_tup5, y_tup6, y_sl1, y_sl1i, y_sl2, y_sl2i, y_sl3, v_slF, v_slL, v_slT, w_0, w_1, y_part, y_sl1v, y_sl1b, y_sl1n, y_sl2v, y_sl2b, y_sl2n, v_isTT, v_isTI, v_isTB, v_isTS, v_isIT, v_isII, v_isIB, v_isIS, v_isBT, v_isBI, v_isBB, v_isBS, v_isST, v_isSI, v_isSB, v_isSS, v_isN, x_rev, x_join, x_fmt, x_fstr, x_zipS, y_rev, y_join1, y_join2, y_fmt, y_fstr, y_rtS, y_zipS1, y_zipS2, v_revL, List.getElem?_cons_zero, List.getElem?_cons_succ, List.set_cons_zero, List.set_cons_succ, decide_true, decide_false, Int.reduceEq, Int.reduceLT, Int.reduceLE, decide_eq_true_eq, Bool.not_true, Bool.not_false, if_true, if_false, Bool.false_eq_true, e1, e2, Int.toNat_natCast]
              simp [hi, hi']
            have hzl : (hs'.map pr).length + ((xs.zip ys).map pr).length ≤ lim := by
              have a := szp_len hs'
              have := h1.1
              simp only [List.length_map, List.length_zip, lim]
              omega
            have eR : ∀ m : M, kRng1 (some (.int (xs.length : Int), m)) = some (rangeD 0 xs.length, m) := fun m => by rw [y_rng1 (rgOk_of (by omega) (by omega)), Int.toNat_natCast]
            have hsz : sz (.tup xs) = 1 + szs xs := by simp [sz]
            refine .inl ⟨m ++ g, [some x, some y, some (.ref (m ++ g.set (l - m.length) (.lst (hs'.map pr))).length), some (.tup xs), some (.tup ys), none], (m ++ g.set (l - m.length) (.lst (hs'.map pr))) ++ [.lst (hs'.map pr ++ (xs.zip ys).map pr)], tc2, ?_, szp (hs' ++ xs.zip ys), ?_, g.set (l - m.length) (.lst (hs'.map pr)) ++ [.lst (hs'.map pr ++ (xs.zip ys).map pr)], (m ++ g.set (l - m.length) (.lst (hs'.map pr))).length, hs' ++ xs.zip ys, some (.tup xs), some (.tup ys), rfl, by rw [List.append_assoc], by simp, ?_, ?_, ?_, rfl, ?_⟩
            · have hli : ((xs.length : Int) = (ys.length : Int)) = True := by simp [hlen]
              simp -implicitDefEqProofs only [x_var, y_var, x_con, x_glob, x_bin, x_neg, x_cmp, x_chain, x_isN, x_notN, x_and, x_and1, x_or, x_or1, x_not, x_ife, x_call, x_callP, x_bi, x_isi, x_listRg, x_ix, x_sl, x_tup, x_lst, x_comp, x_compIf, x_box, x_pop, x_popAt, x_append, x_nil, x_cons, x_seq, x_rng1, x_rng2, x_zip, x_asg, x_setix, x_aug, x_ex, x_if, x_for, x_while, x_ret, x_brk, x_cont, x_bnil, x_bcons, y_rt1, y_rtB, y_bin1, y_bin2, y_cmp1, y_cmp2, y_neg, y_isN, y_notN, y_andT, y_andF, y_orT, y_orF, y_not, y_ifT, y_ifF, y_chain1, y_chain2, y_chainT, y_chainF, y_chain3, y_cons1, y_cons2, y_call, y_callP, y_bi, y_isi, y_ix1, y_ix2, y_tup0, y_tup1, y_tup2, y_tup3, y_tup4, y_lst0, y_lst1, y_lst2, y_lst3, y_lc, y_box, y_pop, y_popAt1, y_popAt2, y_append1, y_append2, y_rtL, y_seq, y_seqT, y_seqL, y_rng21, y_zip1, y_zip2, y_zipT, y_zipL, y_rtE, y_asg, y_set1, y_set2, y_set3, y_aug, y_augA, y_augS, y_ex, y_ifST, y_ifSF, y_for, y_ret, y_nx, y_rt, y_bk, y_ct, y_fnR, y_fnN, y_nm, y_tp, y_tgn, y_tgc, y_tgk, v_add, v_sub, v_eqI, v_eqS, v_eqB, v_neI, v_neS, v_neB, v_lt, v_le, v_gt, v_ge, v_lenT, v_lenL, v_lenF, v_tupL, v_tupT, v_listL, v_listT, v_intI, v_intB, v_max, v_min, v_ixT, v_ixL, v_at0, v_at1, v_at2, y_lst4, y_lst5, y_lst6, y_lst7, y_tup5, y_tup6, y_sl1, y_sl1i, y_sl2, y_sl2i, y_sl3, v_slF, v_slL, v_slT, w_0, w_1, y_part, y_sl1v, y_sl1b, y_sl1n, y_sl2v, y_sl2b, y_sl2n, v_isTT, v_isTI, v_isTB, v_isTS, v_isIT, v_isII, v_isIB, v_isIS, v_isBT, v_isBI, v_isBB, v_isBS, v_isST, v_isSI, v_isSB, v_isSS, v_isN, x_rev, x_join, x_fmt, x_fstr, x_zipS, y_rev, y_join1, y_join2, y_fmt, y_fstr, y_rtS, y_zipS1, y_zipS2, v_revL, List.getElem?_cons_zero, List.getElem?_cons_succ, List.set_cons_zero, List.set_cons_succ, decide_true, decide_false, Int.reduceEq, Int.reduceLT, Int.reduceLE, decide_eq_true_eq, Bool.not_true, Bool.not_false, if_true, if_false, Bool.false_eq_true, l__law_same_0, pp, hli, eR, y_comp hlr, cm, catR hml hzl]
            · rw [szp_app, szp_zip hlen]
              omega
            · rw [List.getElem?_append_right (Nat.le_refl _), Nat.sub_self, List.map_append]; rfl
            · intro p hp
              rcases List.mem_append.mp hp with hp | hp
              · exact hok' p hp
              · have := List.of_mem_zip (a := p.1) (b := p.2) hp
                exact ⟨okN_up (h1.2 _ this.1), okN_up (h2.2 _ this.2)⟩
            · rw [hiff, hall, List.forall_mem_append, zip_all hlen, D.tup.injEq]
            · rw [szp_app, szp_zip hlen]
              omega
          · have hli : ((xs.length : Int) = (ys.length : Int)) = False := by simp only [eq_iff_iff, iff_false]; omega
            exact fin (fun e => hlen (by cases e; rfl)) (by simp -implicitDefEqProofs only [x_var, y_var, x_con, x_glob, x_bin, x_neg, x_cmp, x_chain, x_isN, x_notN, x_and, x_and1, x_or, x_or1, x_not, x_ife, x_call, x_callP, x_bi, x_isi, x_listRg, x_ix, x_sl, x_tup, x_lst, x_comp, x_compIf, x_box, x_pop, x_popAt, x_append, x_nil, x_cons, x_seq, x_rng1, x_rng2, x_zip, x_asg, x_setix, x_aug, x_ex, x_if, x_for, x_while, x_ret, x_brk, x_cont, x_bnil, x_bcons, y_rt1, y_rtB, y_bin1, y_bin2, y_cmp1, y_cmp2, y_neg, y_isN, y_notN, y_andT, y_andF, y_orT, y_orF, y_not, y_ifT, y_ifF, y_chain1, y_chain2, y_chainT, y_chainF, y_chain3, y_cons1, y_cons2, y_call, y_callP, y_bi, y_isi, y_ix1, y_ix2, y_tup0, y_tup1, y_tup2, y_tup3, y_tup4, y_lst0, y_lst1, y_lst2, y_lst3, y_lc, y_box, y_pop, y_popAt1, y_popAt2, y_append1, y_append2, y_rtL, y_seq, y_seqT, y_seqL, y_rng21, y_zip1, y_zip2, y_zipT, y_zipL, y_rtE, y_asg, y_set1, y_set2, y_set3, y_aug, y_augA, y_augS, y_ex, y_ifST, y_ifSF, y_for, y_ret, y_nx, y_rt, y_bk, y_ct, y_fnR, y_fnN, y_nm, y_tp, y_tgn, y_tgc, y_tgk, v_add, v_sub, v_eqI, v_eqS, v_eqB, v_neI, v_neS, v_neB, v_lt, v_le, v_gt, v_ge, v_lenT, v_lenL, v_lenF, v_tupL, v_tupT, v_listL, v_listT, v_intI, v_intB, v_max, v_min, v_ixT, v_ixL, v_at0, v_at1, v_at2, y_lst4, y_lst5, y_lst6, y_lst7, y_tup5, y_tup6, y_sl1, y_sl1i, y_sl2, y_sl2i, y_sl3, v_slF, v_slL, v_slT, w_0, w_1, y_part, y_sl1v, y_sl1b, y_sl1n, y_sl2v, y_sl2b, y_sl2n, v_isTT, v_isTI, v_isTB, v_isTS, v_isIT, v_isII, v_isIB, v_isIS, v_isBT, v_isBI, v_isBB, v_isBS, v_isST, v_isSI, v_isSB, v_isSS, v_isN, x_rev, x_join, x_fmt, x_fstr, x_zipS, y_rev, y_join1, y_join2, y_fmt, y_fstr, y_rtS, y_zipS1, y_zipS2, v_revL, List.getElem?_cons_zero, List.getElem?_cons_succ, List.set_cons_zero, List.set_cons_succ, decide_true, decide_false, Int.reduceEq, Int.reduceLT, Int.reduceLE, decide_eq_true_eq, Bool.not_true, Bool.not_false, if_true, if_false, Bool.false_eq_true, l__law_same_0, pp, hli])
        case non.non => exact .inl (go rfl (by simp -implicitDefEqProofs only [x_var, y_var, x_con, x_glob, x_bin, x_neg, x_cmp, x_chain, x_isN, x_notN, x_and, x_and1, x_or, x_or1, x_not, x_ife, x_call, x_callP, x_bi, x_isi, x_listRg, x_ix, x_sl, x_tup, x_lst, x_comp, x_compIf, x_box, x_pop, x_popAt, x_append, x_nil, x_cons, x_seq, x_rng1, x_rng2, x_zip, x_asg, x_setix, x_aug, x_ex, x_if, x_for, x_while, x_ret, x_brk, x_cont, x_bnil, x_bcons, y_rt1, y_rtB, y_bin1, y_bin2, y_cmp1, y_cmp2, y_neg, y_isN, y_notN, y_andT, y_andF, y_orT, y_orF, y_not, y_ifT, y_ifF, y_chain1, y_chain2, y_chainT, y_chainF, y_chain3, y_cons1, y_cons2, y_call, y_callP, y_bi, y_isi, y_ix1, y_ix2, y_tup0, y_tup1, y_tup2, y_tup3, y_tup4, y_lst0, y_lst1, y_lst2, y_lst3, y_lc, y_box, y_pop, y_popAt1, y_popAt2, y_append1, y_append2, y_rtL, y_seq, y_seqT, y_seqL, y_rng21, y_zip1, y_zip2, y_zipT, y_zipL, y_rtE, y_asg, y_set1, y_set2, y_set3, y_aug, y_augA, y_augS, y_ex, y_ifST, y_ifSF, y_for, y_ret, y_nx, y_rt, y_bk, y_ct, y_fnR, y_fnN, y_nm, y_tp, y_tgn, y_tgc, y_tgk, v_add, v_sub, v_eqI, v_eqS, v_eqB, v_neI, v_neS, v_neB, v_lt, v_le, v_gt, v_ge, v_lenT, v_lenL, v_lenF, v_tupL, v_tupT, v_listL, v_listT, v_intI, v_intB, v_max, v_min, v_ixT, v_ixL, v_at0, v_at1, v_at2, y_lst4, y_lst5, y_lst6, y_lst7, y_tup5, y_tup6, y_sl1, y_sl1i, y_sl2, y_sl2i, y_sl3, v_slF, v_slL, v_slT, w_0, w_1, y_part, y_sl1v, y_sl1b, y_sl1n, y_sl2v, y_sl2b, y_sl2n, v_isTT, v_isTI, v_isTB, v_isTS, v_isIT, v_isII, v_isIB, v_isIS, v_isBT, v_isBI, v_isBB, v_isBS, v_isST, v_isSI, v_isSB, v_isSS, v_isN, x_rev, x_join, x_fmt, x_fstr, x_zipS, y_rev, y_join1, y_join2, y_fmt, y_fstr, y_rtS, y_zipS1, y_zipS2, v_revL, List.getElem?_cons_zero, List.getElem?_cons_succ, List.set_cons_zero, List.set_cons_succ, decide_true, decide_false, Int.reduceEq, Int.reduceLT, Int.reduceLE, decide_eq_true_eq, Bool.not_true, Bool.not_false, if_true, if_false, Bool.false_eq_true, l__law_same_0, pp, reduceCtorEq]))
        case bl.bl u v =>
          by_cases e : u = v
          · subst e
            exact .inl (go rfl (by simp -implicitDefEqProofs only [x_var, y_var, x_con, x_glob, x_bin, x_neg, x_cmp, x_chain, x_isN, x_notN, x_and, x_and1, x_or, x_or1, x_not, x_ife, x_call, x_callP, x_bi, x_isi, x_listRg, x_ix, x_sl, x_tup, x_lst, x_comp, x_compIf, x_box, x_pop, x_popAt, x_append, x_nil, x_cons, x_seq, x_rng1, x_rng2, x_zip, x_asg, x_setix, x_aug, x_ex, x_if, x_for, x_while, x_ret, x_brk, x_cont, x_bnil, x_bcons, y_rt1, y_rtB, y_bin1, y_bin2, y_cmp1, y_cmp2, y_neg, y_isN, y_notN, y_andT, y_andF, y_orT, y_orF, y_not, y_ifT, y_ifF, y_chain1, y_chain2, y_chainT, y_chainF, y_chain3, y_cons1, y_cons2, y_call, y_callP, y_bi, y_isi, y_ix1, y_ix2, y_tup0, y_tup1, y_tup2, y_tup3, y_tup4, y_lst0, y_lst1, y_lst2, y_lst3, y_lc, y_box, y_pop, y_popAt1, y_popAt2, y_append1, y_append2, y_rtL, y_seq, y_seqT, y_seqL, y_rng21, y_zip1, y_zip2, y_zipT, y_zipL, y_rtE, y_asg, y_set1, y_set2, y_set3, y_aug, y_augA, y_augS, y_ex, y_ifST, y_ifSF, y_for, y_ret, y_nx, y_rt, y_bk, y_ct, y_fnR, y_fnN, y_nm, y_tp, y_tgn, y_tgc, y_tgk, v_add, v_sub, v_eqI, v_eqS, v_eqB, v_neI, v_neS, v_neB, v_lt, v_le, v_gt, v_ge, v_lenT, v_lenL, v_lenF, v_tupL, v_tupT, v_listL, v_listT, v_intI, v_intB, v_max, v_min, v_ixT, v_ixL, v_at0, v_at1, v_at2, y_lst4, y_lst5, y_lst6, y_lst7, y_tup5, y_tup6, y_sl1, y_sl1i, y_sl2, y_sl2i, y_sl3, v_slF, v_slL, v_slT, w_0, w_1, y_part, y_sl1v, y_sl1b, y_sl1n, y_sl2v, y_sl2b, y_sl2n, v_isTT, v_isTI, v_isTB, v_isTS, v_isIT, v_isII, v_isIB, v_isIS, v_isBT, v_isBI, v_isBB, v_isBS, v_isST, v_isSI, v_isSB, v_isSS, v_isN, x_rev, x_join, x_fmt, x_fstr, x_zipS, y_rev, y_join1, y_join2, y_fmt, y_fstr, y_rtS, y_zipS1, y_zipS2, v_revL, List.getElem?_cons_zero, List.getElem?_cons_succ, List.set_cons_zero, List.set_cons_succ, decide_true, decide_false, Int.reduceEq, Int.reduceLT, Int.reduceLE, decide_eq_true_eq, Bool.not_true, Bool.not_false, if_true, if_false, Bool.false_eq_true, l__law_same_0, pp, bTT, bFF, Bool.not_true, Bool.not_false, reduceCtorEq, beq_self_eq_true]))
          · have e' : (u == v) = false := by simpa using e
            exact fin (fun q => e (by cases q; rfl)) (by simp -implicitDefEqProofs only [x_var, y_var, x_con, x_glob, x_bin, x_neg, x_cmp, x_chain, x_isN, x_notN, x_and, x_and1, x_or, x_or1, x_not, x_ife, x_call, x_callP, x_bi, x_isi, x_listRg, x_ix, x_sl, x_tup, x_lst, x_comp, x_compIf, x_box, x_pop, x_popAt, x_append, x_nil, x_cons, x_seq, x_rng1, x_rng2, x_zip, x_asg, x_setix, x_aug, x_ex, x_if, x_for, x_while, x_ret, x_brk, x_cont, x_bnil, x_bcons, y_rt1, y_rtB, y_bin1, y_bin2, y_cmp1, y_cmp2, y_neg, y_isN, y_notN, y_andT, y_andF, y_orT, y_orF, y_not, y_ifT, y_ifF, y_chain1, y_chain2, y_chainT, y_chainF, y_chain3, y_cons1, y_cons2, y_call, y_callP, y_bi, y_isi, y_ix1, y_ix2, y_tup0, y_tup1, y_tup2, y_tup3, y_tup4, y_lst0, y_lst1, y_lst2, y_lst3, y_lc, y_box, y_pop, y_popAt1, y_popAt2, y_append1, y_append2, y_rtL, y_seq, y_seqT, y_seqL, y_rng21, y_zip1, y_zip2, y_zipT, y_zipL, y_rtE, y_asg, y_set1, y_set2, y_set3, y_aug, y_augA, y_augS, y_ex, y_ifST, y_ifSF, y_for, y_ret, y_nx, y_rt, y_bk, y_ct, y_fnR, y_fnN, y_nm, y_tp, y_tgn, y_tgc, y_tgk, v_add, v_sub, v_eqI, v_eqS, v_eqB, v_neI, v_neS, v_neB, v_lt, v_le, v_gt, v_ge, v_lenT, v_lenL, v_lenF, v_tupL, v_tupT, v_listL, v_listT, v_intI, v_intB, v_max, v_min, v_ixT, v_ixL, v_at0, v_at1, v_at2, y_lst4, y_lst5, y_lst6, y_lst7, y_tup5, y_tup6, y_sl1, y_sl1i, y_sl2, y_sl2i, y_sl3, v_slF, v_slL, v_slT, w_0, w_1, y_part, y_sl1v, y_sl1b, y_sl1n, y_sl2v, y_sl2b, y_sl2n, v_isTT, v_isTI, v_isTB, v_isTS, v_isIT, v_isII, v_isIB, v_isIS, v_isBT, v_isBI, v_isBB, v_isBS, v_isST, v_isSI, v_isSB, v_isSS, v_isN, x_rev, x_join, x_fmt, x_fstr, x_zipS, y_rev, y_join1, y_join2, y_fmt, y_fstr, y_rtS, y_zipS1, y_zipS2, v_revL, List.getElem?_cons_zero, List.getElem?_cons_succ, List.set_cons_zero, List.set_cons_succ, decide_true, decide_false, Int.reduceEq, Int.reduceLT, Int.reduceLE, decide_eq_true_eq, Bool.not_true, Bool.not_false, if_true, if_false, Bool.false_eq_true, l__law_same_0, pp, bTT, bFF, Bool.not_true, Bool.not_false, reduceCtorEq, e'])
        case int.int u v =>
          by_cases e : u = v
          · subst e
            exact .inl (go rfl (by simp -implicitDefEqProofs only [x_var, y_var, x_con, x_glob, x_bin, x_neg, x_cmp, x_chain, x_isN, x_notN, x_and, x_and1, x_or, x_or1, x_not, x_ife, x_call, x_callP, x_bi, x_isi, x_listRg, x_ix, x_sl, x_tup, x_lst, x_comp, x_compIf, x_box, x_pop, x_popAt, x_append, x_nil, x_cons, x_seq, x_rng1, x_rng2, x_zip, x_asg, x_setix, x_aug, x_ex, x_if, x_for, x_while, x_ret, x_brk, x_cont, x_bnil, x_bcons, y_rt1, y_rtB, y_bin1, y_bin2, y_cmp1, y_cmp2, y_neg, y_isN, y_notN, y_andT, y_andF, y_orT, y_orF, y_not, y_ifT, y_ifF, y_chain1, y_chain2, y_chainT, y_chainF, y_chain3, y_cons1, y_cons2, y_call, y_callP, y_bi, y_isi, y_ix1, y_ix2, y_tup0, y_tup1, y_tup2, y_tup3, y_tup4, y_lst0, y_lst1, y_lst2, y_lst3, y_lc, y_box, y_pop, y_popAt1, y_popAt2, y_append1, y_append2, y_rtL, y_seq, y_seqT, y_seqL, y_rng21, y_zip1, y_zip2, y_zipT, y_zipL, y_rtE, y_asg, y_set1, y_set2, y_set3, y_aug, y_augA, y_augS, y_ex, y_ifST, y_ifSF, y_for, y_ret, y_nx, y_rt, y_bk, y_ct, y_fnR, y_fnN, y_nm, y_tp, y_tgn, y_tgc, y_tgk, v_add, v_sub, v_eqI, v_eqS, v_eqB, v_neI, v_neS, v_neB, v_lt, v_le, v_gt, v_ge, v_lenT, v_lenL, v_lenF, v_tupL, v_tupT, v_listL, v_listT, v_intI, v_intB, v_max, v_min, v_ixT, v_ixL, v_at0, v_at1, v_at2, y_lst4, y_lst5, y_lst6, y_lst7, y_tup5, y_tup6, y_sl1, y_sl1i, y_sl2, y_sl2i, y_sl3, v_slF, v_slL, v_slT, w_0, w_1, y_part, y_sl1v, y_sl1b, y_sl1n, y_sl2v, y_sl2b, y_sl2n, v_isTT, v_isTI, v_isTB, v_isTS, v_isIT, v_isII, v_isIB, v_isIS, v_isBT, v_isBI, v_isBB, v_isBS, v_isST, v_isSI, v_isSB, v_isSS, v_isN, x_rev, x_join, x_fmt, x_fstr, x_zipS, y_rev, y_join1, y_join2, y_fmt, y_fstr, y_rtS, y_zipS1, y_zipS2, v_revL, List.getElem?_cons_zero, List.getElem?_cons_succ, List.set_cons_zero, List.set_cons_succ, decide_true, decide_false, Int.reduceEq, Int.reduceLT, Int.reduceLE, decide_eq_true_eq, Bool.not_true, Bool.not_false, if_true, if_false, Bool.false_eq_true, l__law_same_0, pp, bTT, bFF, Bool.not_true, Bool.not_false, reduceCtorEq]))
          · exact fin (fun q => e (by cases q; rfl)) (by simp -implicitDefEqProofs only [x_var, y_var, x_con, x_glob, x_bin, x_neg, x_cmp, x_chain, x_isN, x_notN, x_and, x_and1, x_or, x_or1, x_not, x_ife, x_call, x_callP, x_bi, x_isi, x_listRg, x_ix, x_sl, x_tup, x_lst, x_comp, x_compIf, x_box, x_pop, x_popAt, x_append, x_nil, x_cons, x_seq, x_rng1, x_rng2, x_zip, x_asg, x_setix, x_aug, x_ex, x_if, x_for, x_while, x_ret, x_brk, x_cont, x_bnil, x_bcons, y_rt1, y_rtB, y_bin1, y_bin2, y_cmp1, y_cmp2, y_neg, y_isN, y_notN, y_andT, y_andF, y_orT, y_orF, y_not, y_ifT, y_ifF, y_chain1, y_chain2, y_chainT, y_chainF, y_chain3, y_cons1, y_cons2, y_call, y_callP, y_bi, y_isi, y_ix1, y_ix2, y_tup0, y_tup1, y_tup2, y_tup3, y_tup4, y_lst0, y_lst1, y_lst2, y_lst3, y_lc, y_box, y_pop, y_popAt1, y_popAt2, y_append1, y_append2, y_rtL, y_seq, y_seqT, y_seqL, y_rng21, y_zip1, y_zip2, y_zipT, y_zipL, y_rtE, y_asg, y_set1, y_set2, y_set3, y_aug, y_augA, y_augS, y_ex, y_ifST, y_ifSF, y_for, y_ret, y_nx, y_rt, y_bk, y_ct, y_fnR, y_fnN, y_nm, y_tp, y_tgn, y_tgc, y_tgk, v_add, v_sub, v_eqI, v_eqS, v_eqB, v_neI, v_neS, v_neB, v_lt, v_le, v_gt, v_ge, v_lenT, v_lenL, v_lenF, v_tupL, v_tupT, v_listL, v_listT, v_intI, v_intB, v_max, v_min, v_ixT, v_ixL, v_at0, v_at1, v_at2, y_lst4, y_lst5, y_lst6, y_lst7, y_tup5, y_tup6, y_sl1, y_sl1i, y_sl2, y_sl2i, y_sl3, v_slF, v_slL, v_slT, w_0, w_1, y_part, y_sl1v, y_sl1b, y_sl1n, y_sl2v, y_sl2b, y_sl2n, v_isTT, v_isTI, v_isTB, v_isTS, v_isIT, v_isII, v_isIB, v_isIS, v_isBT, v_isBI, v_isBB, v_isBS, v_isST, v_isSI, v_isSB, v_isSS, v_isN, x_rev, x_join, x_fmt, x_fstr, x_zipS, y_rev, y_join1, y_join2, y_fmt, y_fstr, y_rtS, y_zipS1, y_zipS2, v_revL, List.getElem?_cons_zero, List.getElem?_cons_succ, List.set_cons_zero, List.set_cons_succ, decide_true, decide_false, Int.reduceEq, Int.reduceLT, Int.reduceLE, decide_eq_true_eq, Bool.not_true, Bool.not_false, if_true, if_false, Bool.false_eq_true, l__law_same_0, pp, bTT, bFF, Bool.not_true, Bool.not_false, reduceCtorEq, e])
        case str.str u v =>
          by_cases e : u = v
          · subst e
            exact .inl (go rfl (by simp -implicitDefEqProofs only [x_var, y_var, x_con, x_glob, x_bin, x_neg, x_cmp, x_chain, x_isN, x_notN, x_and, x_and1, x_or, x_or1, x_not, x_ife, x_call, x_callP, x_bi, x_isi, x_listRg, x_ix, x_sl, x_tup, x_lst, x_comp, x_compIf, x_box, x_pop, x_popAt, x_append, x_nil, x_cons, x_seq, x_rng1, x_rng2, x_zip, x_asg, x_setix, x_aug, x_ex, x_if, x_for, x_while, x_ret, x_brk, x_cont, x_bnil, x_bcons, y_rt1, y_rtB, y_bin1, y_bin2, y_cmp1, y_cmp2, y_neg, y_isN, y_notN, y_andT, y_andF, y_orT, y_orF, y_not, y_ifT, y_ifF, y_chain1, y_chain2, y_chainT, y_chainF, y_chain3, y_cons1, y_cons2, y_call, y_callP, y_bi, y_isi, y_ix1, y_ix2, y_tup0, y_tup1, y_tup2, y_tup3, y_tup4, y_lst0, y_lst1, y_lst2, y_lst3, y_lc, y_box, y_pop, y_popAt1, y_popAt2, y_append1, y_append2, y_rtL, y_seq, y_seqT, y_seqL, y_rng21, y_zip1, y_zip2, y_zipT, y_zipL, y_rtE, y_asg, y_set1, y_set2, y_set3, y_aug, y_augA, y_augS, y_ex, y_ifST, y_ifSF, y_for, y_ret, y_nx, y_rt, y_bk, y_ct, y_fnR, y_fnN, y_nm, y_tp, y_tgn, y_tgc, y_tgk, v_add, v_sub, v_eqI, v_eqS, v_eqB, v_neI, v_neS, v_neB, v_lt, v_le, v_gt, v_ge, v_lenT, v_lenL, v_lenF, v_tupL, v_tupT, v_listL, v_listT, v_intI, v_intB, v_max, v_min, v_ixT, v_ixL, v_at0, v_at1, v_at2, y_lst4, y_lst5, y_lst6, y_lst7, y_tup5, y_tup6, y_sl1, y_sl1i, y_sl2, y_sl2i, y_sl3, v_slF, v_slL, v_slT, w_0, w_1, y_part, y_sl1v, y_sl1b, y_sl1n, y_sl2v, y_sl2b, y_sl2n, v_isTT, v_isTI, v_isTB, v_isTS, v_isIT, v_isII, v_isIB, v_isIS, v_isBT, v_isBI, v_isBB, v_isBS, v_isST, v_isSI, v_isSB, v_isSS, v_isN, x_rev, x_join, x_fmt, x_fstr, x_zipS, y_rev, y_join1, y_join2, y_fmt, y_fstr, y_rtS, y_zipS1, y_zipS2, v_revL, List.getElem?_cons_zero, List.getElem?_cons_succ, List.set_cons_zero, List.set_cons_succ, decide_true, decide_false, Int.reduceEq, Int.reduceLT, Int.reduceLE, decide_eq_true_eq, Bool.not_true, Bool.not_false, if_true, if_false, Bool.false_eq_true, l__law_same_0, pp, bTT, bFF, Bool.not_true, Bool.not_false, reduceCtorEq]))
          · exact fin (fun q => e (by cases q; rfl)) (by simp -implicitDefEqProofs only [x_var, y_var, x_con, x_glob, x_bin, x_neg, x_cmp, x_chain, x_isN, x_notN, x_and, x_and1, x_or, x_or1, x_not, x_ife, x_call, x_callP, x_bi, x_isi, x_listRg, x_ix, x_sl, x_tup, x_lst, x_comp, x_compIf, x_box, x_pop, x_popAt, x_append, x_nil, x_cons, x_seq, x_rng1, x_rng2, x_zip, x_asg, x_setix, x_aug, x_ex, x_if, x_for, x_while, x_ret, x_brk, x_cont, x_bnil, x_bcons, y_rt1, y_rtB, y_bin1, y_bin2, y_cmp1, y_cmp2, y_neg, y_isN, y_notN, y_andT, y_andF, y_orT, y_orF, y_not, y_ifT, y_ifF, y_chain1, y_chain2, y_chainT, y_chainF, y_chain3, y_cons1, y_cons2, y_call, y_callP, y_bi, y_isi, y_ix1, y_ix2, y_tup0, y_tup1, y_tup2, y_tup3, y_tup4, y_lst0, y_lst1, y_lst2, y_lst3, y_lc, y_box, y_pop, y_popAt1, y_popAt2, y_append1, y_append2, y_rtL, y_seq, y_seqT, y_seqL, y_rng21, y_zip1, y_zip2, y_zipT, y_zipL, y_rtE, y_asg, y_set1, y_set2, y_set3, y_aug, y_augA, y_augS, y_ex, y_ifST, y_ifSF, y_for, y_ret, y_nx, y_rt, y_bk, y_ct, y_fnR, y_fnN, y_nm, y_tp, y_tgn, y_tgc, y_tgk, v_add, v_sub, v_eqI, v_eqS, v_eqB, v_neI, v_neS, v_neB, v_lt, v_le, v_gt, v_ge, v_lenT, v_lenL, v_lenF, v_tupL, v_tupT, v_listL, v_listT, v_intI, v_intB, v_max, v_min, v_ixT, v_ixL, v_at0, v_at1, v_at2, y_lst4, y_lst5, y_lst6, y_lst7, y_tup5, y_tup6, y_sl1, y_sl1i, y_sl2, y_sl2i, y_sl3, v_slF, v_slL, v_slT, w_0, w_1, y_part, y_sl1v, y_sl1b, y_sl1n, y_sl2v, y_sl2b, y_sl2n, v_isTT, v_isTI, v_isTB, v_isTS, v_isIT, v_isII, v_isIB, v_isIS, v_isBT, v_isBI, v_isBB, v_isBS, v_isST, v_isSI, v_isSB, v_isSS, v_isN, x_rev, x_join, x_fmt, x_fstr, x_zipS, y_rev, y_join1, y_join2, y_fmt, y_fstr, y_rtS, y_zipS1, y_zipS2, v_revL, List.getElem?_cons_zero, List.getElem?_cons_succ, List.set_cons_zero, List.set_cons_succ, decide_true, decide_false, Int.reduceEq, Int.reduceLT, Int.reduceLE, decide_eq_true_eq, Bool.not_true, Bool.not_false, if_true, if_false, Bool.false_eq_true, l__law_same_0, pp, bTT, bFF, Bool.not_true, Bool.not_false, reduceCtorEq, e])
        all_goals first
          | (exfalso; have q := hokq.1; cases n <;> simp [okN] at q <;> done)
          | (exfalso; have q := hokq.2; cases n <;> simp [okN] at q <;> done)
          | exact fin (by simp) (by simp -implicitDefEqProofs only [x_var, y_var, x_con, x_glob, x_bin, x_neg, x_cmp, x_chain, x_isN, x_notN, x_and, x_and1, x_or, x_or1, x_not, x_ife, x_call, x_callP, x_bi, x_isi, x_listRg, x_ix, x_sl, x_tup, x_lst, x_comp, x_compIf, x_box, x_pop, x_popAt, x_append, x_nil, x_cons, x_seq, x_rng1, x_rng2, x_zip, x_asg, x_setix, x_aug, x_ex, x_if, x_for, x_while, x_ret, x_brk, x_cont, x_bnil, x_bcons, y_rt1, y_rtB, y_bin1, y_bin2, y_cmp1, y_cmp2, y_neg, y_isN, y_notN, y_andT, y_andF, y_orT, y_orF, y_not, y_ifT, y_ifF, y_chain1, y_chain2, y_chainT, y_chainF, y_chain3, y_cons1, y_cons2, y_call, y_callP, y_bi, y_isi, y_ix1, y_ix2, y_tup0, y_tup1, y_tup2, y_tup3, y_tup4, y_lst0, y_lst1, y_lst2, y_lst3, y_lc, y_box, y_pop, y_popAt1, y_popAt2, y_append1, y_append2, y_rtL, y_seq, y_seqT, y_seqL, y_rng21, y_zip1, y_zip2, y_zipT, y_zipL, y_rtE, y_asg, y_set1, y_set2, y_set3, y_aug, y_augA, y_augS, y_ex, y_ifST, y_ifSF, y_for, y_ret, y_nx, y_rt, y_bk, y_ct, y_fnR, y_fnN, y_nm, y_tp, y_tgn, y_tgc, y_tgk, v_add, v_sub, v_eqI, v_eqS, v_eqB, v_neI, v_neS, v_neB, v_lt, v_le, v_gt, v_ge, v_lenT, v_lenL, v_lenF, v_tupL, v_tupT, v_listL, v_listT, v_intI, v_intB, v_max, v_min, v_ixT, v_ixL, v_at0, v_at1, v_at2, y_lst4, y_lst5, y_lst6, y_lst7, y_tup5, y_tup6, y_sl1, y_sl1i, y_sl2, y_sl2i, y_sl3, v_slF, v_slL, v_slT, w_0, w_1, y_part, y_sl1v, y_sl1b, y_sl1n, y_sl2v, y_sl2b, y_sl2n, v_isTT, v_isTI, v_isTB, v_isTS, v_isIT, v_isII, v_isIB, v_isIS, v_isBT, v_isBI, v_isBB, v_isBS, v_isST, v_isSI, v_isSB, v_isSS, v_isN, x_rev, x_join, x_fmt, x_fstr, x_zipS, y_rev, y_join1, y_join2, y_fmt, y_fstr, y_rtS, y_zipS1, y_zipS2, v_revL, List.getElem?_cons_zero, List.getElem?_cons_succ, List.set_cons_zero, List.set_cons_succ, decide_true, decide_false, Int.reduceEq, Int.reduceLT, Int.reduceLE, decide_eq_true_eq, Bool.not_true, Bool.not_false, if_true, if_false, Bool.false_eq_true, l__law_same_0, pp, bTT, bFF, bTF, bFT, Bool.not_true, Bool.not_false, reduceCtorEq]))
    (szp [(x, y)]) turns [some x, some y, some (.ref m.length), none, none, none] (m ++ [.lst [.tup [x, y]]]) ⟨[.lst [.tup [x, y]]], m.length, [(x, y)], none, none, rfl, rfl, Nat.le_refl _, by simp [pr], by simpa using ⟨hx, hy⟩, by simp, rfl, by simpa [szp] using hs⟩ (by simp only [szp, List.map_cons, List.map_nil, List.sum_cons, List.sum_nil, turns]; omega)
  rcases W with ⟨e, env, g, h⟩ | ⟨e, env, g, h⟩
  · refine ⟨g, ?_⟩
    subst e
    simp -implicitDefEqProofs only [x_var, y_var, x_con, x_glob, x_bin, x_neg, x_cmp, x_chain, x_isN, x_notN, x_and, x_and1, x_or, x_or1, x_not, x_ife, x_call, x_callP, x_bi, x_isi, x_listRg, x_ix, x_sl, x_tup, x_lst, x_comp, x_compIf, x_box, x_pop, x_popAt, x_append, x_nil, x_cons, x_seq, x_rng1, x_rng2, x_zip, x_asg, x_setix, x_aug, x_ex, x_if, x_for, x_while, x_ret, x_brk, x_cont, x_bnil, x_bcons, y_rt1, y_rtB, y_bin1, y_bin2, y_cmp1, y_cmp2, y_neg, y_isN, y_notN, y_andT, y_andF, y_orT, y_orF, y_not, y_ifT, y_ifF, y_chain1, y_chain2, y_chainT, y_chainF, y_chain3, y_cons1, y_cons2, y_call, y_callP, y_bi, y_isi, y_ix1, y_ix2, y_tup0, y_tup1, y_tup2, y_tup3, y_tup4, y_lst0, y_lst1, y_lst2, y_lst3, y_lc, y_box, y_pop, y_popAt1, y_popAt2, y_append1, y_append2, y_rtL, y_seq, y_seqT, y_seqL, y_rng21, y_zip1, y_zip2, y_zipT, y_zipL, y_rtE, y_asg, y_set1, y_set2, y_set3, y_aug, y_augA, y_augS, y_ex, y_ifST, y_ifSF, y_for, y_ret, y_nx, y_rt, y_bk, y_ct, y_fnR, y_fnN, y_nm, y_tp, y_tgn, y_tgc, y_tgk, v_add, v_sub, v_eqI, v_eqS, v_eqB, v_neI, v_neS, v_neB, v_lt, v_le, v_gt, v_ge, v_lenT, v_lenL, v_lenF, v_tupL, v_tupT, v_listL, v_listT, v_intI, v_intB, v_max, v_min, v_ixT, v_ixL, v_at0, v_at1, v_at2, y_lst4, y_lst5, y_lst6, y_lst7, y_tup5, y_tup6, y_sl1, y_sl1i, y_sl2, y_sl2i, y_sl3, v_slF, v_slL, v_slT, w_0, w_1, y_part, y_sl1v, y_sl1b, y_sl1n, y_sl2v, y_sl2b, y_sl2n, v_isTT, v_isTI, v_isTB, v_isTS, v_isIT, v_isII, v_isIB, v_isIS, v_isBT, v_isBI, v_isBB, v_isBS, v_isST, v_isSI, v_isSB, v_isSS, v_isN, x_rev, x_join, x_fmt, x_fstr, x_zipS, y_rev, y_join1, y_join2, y_fmt, y_fstr, y_rtS, y_zipS1, y_zipS2, v_revL, List.getElem?_cons_zero, List.getElem?_cons_succ, List.set_cons_zero, List.set_cons_succ, decide_true, decide_false, Int.reduceEq, Int.reduceLT, Int.reduceLE, decide_eq_true_eq, Bool.not_true, Bool.not_false, if_true, if_false, Bool.false_eq_true, b__law_same, x_while, h]
  · refine ⟨g, ?_⟩
    simp -implicitDefEqProofs only [x_var, y_var, x_con, x_glob, x_bin, x_neg, x_cmp, x_chain, x_isN, x_notN, x_and, x_and1, x_or, x_or1, x_not, x_ife, x_call, x_callP, x_bi, x_isi, x_listRg, x_ix, x_sl, x_tup, x_lst, x_comp, x_compIf, x_box, x_pop, x_popAt, x_append, x_nil, x_cons, x_seq, x_rng1, x_rng2, x_zip, x_asg, x_setix, x_aug, x_ex, x_if, x_for, x_while, x_ret, x_brk, x_cont, x_bnil, x_bcons, y_rt1, y_rtB, y_bin1, y_bin2, y_cmp1, y_cmp2, y_neg, y_isN, y_notN, y_andT, y_andF, y_orT, y_orF, y_not, y_ifT, y_ifF, y_chain1, y_chain2, y_chainT, y_chainF, y_chain3, y_cons1, y_cons2, y_call, y_callP, y_bi, y_isi, y_ix1, y_ix2, y_tup0, y_tup1, y_tup2, y_tup3, y_tup4, y_lst0, y_lst1, y_lst2, y_lst3, y_lc, y_box, y_pop, y_popAt1, y_popAt2, y_append1, y_append2, y_rtL, y_seq, y_seqT, y_seqL, y_rng21, y_zip1, y_zip2, y_zipT, y_zipL, y_rtE, y_asg, y_set1, y_set2, y_set3, y_aug, y_augA, y_augS, y_ex, y_ifST, y_ifSF, y_for, y_ret, y_nx, y_rt, y_bk, y_ct, y_fnR, y_fnN, y_nm, y_tp, y_tgn, y_tgc, y_tgk, v_add, v_sub, v_eqI, v_eqS, v_eqB, v_neI, v_neS, v_neB, v_lt, v_le, v_gt, v_ge, v_lenT, v_lenL, v_lenF, v_tupL, v_tupT, v_listL, v_listT, v_intI, v_intB, v_max, v_min, v_ixT, v_ixL, v_at0, v_at1, v_at2, y_lst4, y_lst5, y_lst6, y_lst7, y_tup5, y_tup6, y_sl1, y_sl1i, y_sl2, y_sl2i, y_sl3, v_slF, v_slL, v_slT, w_0, w_1, y_part, y_sl1v, y_sl1b, y_sl1n, y_sl2v, y_sl2b, y_sl2n, v_isTT, v_isTI, v_isTB, v_isTS, v_isIT, v_isII, v_isIB, v_isIS, v_isBT, v_isBI, v_isBB, v_isBS, v_isST, v_isSI, v_isSB, v_isSS, v_isN, x_rev, x_join, x_fmt, x_fstr, x_zipS, y_rev, y_join1, y_join2, y_fmt, y_fstr, y_rtS, y_zipS1, y_zipS2, v_revL, List.getElem?_cons_zero, List.getElem?_cons_succ, List.set_cons_zero, List.set_cons_succ, decide_true, decide_false, Int.reduceEq, Int.reduceLT, Int.reduceLE, decide_eq_true_eq, Bool.not_true, Bool.not_false, if_true, if_false, Bool.false_eq_true, b__law_same, x_while, h, e]
end Lw

namespace Lw
open PySem Pv
/-! texts -/
theorem strOk_cat {a b : Str} (h : PyData.strOk a = true) (h' : PyData.strOk b = true) : PyData.strOk (a ++ b) = true := by
  unfold PyData.strOk at *
  have e : (a ++ b).cps = a.cps ++ b.cps := rfl
  rw [e, Array.all_append, h, h']; rfl
theorem strOk_join {a : Str} (h : PyData.strOk a = true) : ∀ {l : List Str}, (∀ x ∈ l, PyData.strOk x = true) → PyData.strOk (Str.join a l) = true
  | [], _ => by show PyData.strOk Str.empty = true; decide +kernel
  | [x], hl => hl x List.mem_cons_self
  | x :: y :: r, hl => by
    rw [Str.join]
    · exact strOk_cat (strOk_cat (hl x List.mem_cons_self) h) (strOk_join h fun z hz => hl z (List.mem_cons_of_mem _ hz))
    · simp
theorem strs_ok : ∀ {l : List Str}, strsD (l.map .str) = some l
  | [] => rfl
  | x :: l => by rw [List.map_cons, strsD, strs_ok]; rfl
/-- one sign of a written text -/
theorem sign_at {z : Str} (hz : PyData.strOk z = true) (hl : z.length ≤ lim) {m : M} {d : Int} (h0 : 0 ≤ d) (h1 : d < z.length) : ∃ c : Str, ixD m (.str z) (.int d) = some (.str c) ∧ PyData.strOk c = true ∧ c.length = 1 := by
  obtain ⟨j, rfl⟩ := Int.eq_ofNat_of_zero_le h0
  have hj : j < z.cps.toList.length := by
    have : z.length = z.cps.toList.length := by simp [Str.length]
    omega
  refine ⟨⟨#[z.cps.toList[j]]⟩, ?_, ?_, rfl⟩
  · have e : ixD m (.str z) (.int (j : Int)) = if z.length ≤ lim then ((ixAt z.cps.toList.length (j : Int)).bind fun k => z.cps.toList[k]?).map fun c => .str ⟨#[c]⟩ else none := rfl
    rw [e, if_pos hl, ixAt_nat hj]
    simp only [Option.bind_some, List.getElem?_eq_getElem hj, Option.map_some]
  · unfold PyData.strOk at *
    have : z.cps.toList[j] ∈ z.cps.toList := List.getElem_mem hj
    rw [Array.all_eq_true_iff_forall_mem] at hz
    have := hz _ (Array.mem_toList_iff.mp this)
    simpa using this
def sgn : Str := " !\"#$&'()*+,-./0123456789:;<=>?@ABCDEFGHIJKLMNOPQRSTUVWXYZ[\\]^_`abcdefghijklmnopqrstuvwxyz{|}~"
theorem sgn_ok : PyData.strOk sgn = true ∧ sgn.length = 94 := by decide +kernel
theorem okN_flat {n : Nat} {x : D} (h : okN 0 x = true) : okN n x = true := okN_le h (Nat.zero_le _)
theorem sz_flat {x : D} (h : okN 0 x = true) : sz x = 1 := by cases x <;> first | rfl | simp [okN] at h
theorem simple_ok {G : List D} {n : Nat} (s : Dk) (h : s.Ok) (hk : s.k + 20 < 2 ^ 40) (g : M) :
    ∃ r s', run tab G (n + 2) 4 [.ref 1] (mem s g) = some (r, mem s' g) ∧ okN 0 r = true ∧ s'.k ≤ s.k + 20 ∧ s'.Ok := by
  obtain ⟨w, s1, e1, p1, q1, k1, o1⟩ := pick_run (G := G) (n := n) s h (by omega) 8 (by decide) (by decide) g
  rw [run__law_simple, r__law_simple]
  have t9 : ∀ m : M, bopD m .pow (.int 10) (.int 9) = some (.int 1000000000) := fun m => v_pow (by decide)
  have t10 : ∀ m : M, bopD m .pow (.int 10) (.int 10) = some (.int 10000000000) := fun m => v_pow (by decide)
  have t64 : ∀ m : M, bopD m .pow (.int 10) (.int 64) = some (.int (10 ^ 64)) := fun m => v_pow (by decide)
  by_cases w0 : w = 0
  · subst w0
    refine ⟨.non, s1, ?_, rfl, by omega, o1⟩
    simp -implicitDefEqProofs only [x_var, y_var, x_con, x_glob, x_bin, x_neg, x_cmp, x_chain, x_isN, x_notN, x_and, x_and1, x_or, x_or1, x_not, x_ife, x_call, x_callP, x_bi, x_isi, x_listRg, x_ix, x_sl, x_tup, x_lst, x_comp, x_compIf, x_box, x_pop, x_popAt, x_append, x_nil, x_cons, x_seq, x_rng1, x_rng2, x_zip, x_asg, x_setix, x_aug, x_ex, x_if, x_for, x_while, x_ret, x_brk, x_cont, x_bnil, x_bcons, y_rt1, y_rtB, y_bin1, y_bin2, y_cmp1, y_cmp2, y_neg, y_isN, y_notN, y_andT, y_andF, y_orT, y_orF, y_not, y_ifT, y_ifF, y_chain1, y_chain2, y_chainT, y_chainF, y_chain3, y_cons1, y_cons2, y_call, y_callP, y_bi, y_isi, y_ix1, y_ix2, y_tup0, y_tup1, y_tup2, y_tup3, y_tup4, y_lst0, y_lst1, y_lst2, y_lst3, y_lc, y_box, y_pop, y_popAt1, y_popAt2, y_append1, y_append2, y_rtL, y_seq, y_seqT, y_seqL, y_rng21, y_zip1, y_zip2, y_zipT, y_zipL, y_rtE, y_asg, y_set1, y_set2, y_set3, y_aug, y_augA, y_augS, y_ex, y_ifST, y_ifSF, y_for, y_ret, y_nx, y_rt, y_bk, y_ct, y_fnR, y_fnN, y_nm, y_tp, y_tgn, y_tgc, y_tgk, v_add, v_sub, v_eqI, v_eqS, v_eqB, v_neI, v_neS, v_neB, v_lt, v_le, v_gt, v_ge, v_lenT, v_lenL, v_lenF, v_tupL, v_tupT, v_listL, v_listT, v_intI, v_intB, v_max, v_min, v_ixT, v_ixL, v_at0, v_at1, v_at2, y_lst4, y_lst5, y_lst6, y_lst7, y_tup5, y_tup6, y_sl1, y_sl1i, y_sl2, y_sl2i, y_sl3, v_slF, v_slL, v_slT, w_0, w_1, y_part, y_sl1v, y_sl1b, y_sl1n, y_sl2v, y_sl2b, y_sl2n, v_isTT, v_isTI, v_isTB, v_isTS, v_isIT, v_isII, v_isIB, v_isIS, v_isBT, v_isBI, v_isBB, v_isBS, v_isST, v_isSI, v_isSB, v_isSS, v_isN, x_rev, x_join, x_fmt, x_fstr, x_zipS, y_rev, y_join1, y_join2, y_fmt, y_fstr, y_rtS, y_zipS1, y_zipS2, v_revL, List.getElem?_cons_zero, List.getElem?_cons_succ, List.set_cons_zero, List.set_cons_succ, decide_true, decide_false, Int.reduceEq, Int.reduceLT, Int.reduceLE, decide_eq_true_eq, Bool.not_true, Bool.not_false, if_true, if_false, Bool.false_eq_true, b__law_simple, e1]
  by_cases w3 : w < 3
  · refine ⟨.bl (decide (w = 1)), s1, ?_, rfl, by omega, o1⟩
    simp -implicitDefEqProofs only [x_var, y_var, x_con, x_glob, x_bin, x_neg, x_cmp, x_chain, x_isN, x_notN, x_and, x_and1, x_or, x_or1, x_not, x_ife, x_call, x_callP, x_bi, x_isi, x_listRg, x_ix, x_sl, x_tup, x_lst, x_comp, x_compIf, x_box, x_pop, x_popAt, x_append, x_nil, x_cons, x_seq, x_rng1, x_rng2, x_zip, x_asg, x_setix, x_aug, x_ex, x_if, x_for, x_while, x_ret, x_brk, x_cont, x_bnil, x_bcons, y_rt1, y_rtB, y_bin1, y_bin2, y_cmp1, y_cmp2, y_neg, y_isN, y_notN, y_andT, y_andF, y_orT, y_orF, y_not, y_ifT, y_ifF, y_chain1, y_chain2, y_chainT, y_chainF, y_chain3, y_cons1, y_cons2, y_call, y_callP, y_bi, y_isi, y_ix1, y_ix2, y_tup0, y_tup1, y_tup2, y_tup3, y_tup4, y_lst0, y_lst1, y_lst2, y_lst3, y_lc, y_box, y_pop, y_popAt1, y_popAt2, y_append1, y_append2, y_rtL, y_seq, y_seqT, y_seqL, y_rng21, y_zip1, y_zip2, y_zipT, y_zipL, y_rtE, y_asg, y_set1, y_set2, y_set3, y_aug, y_augA, y_augS, y_ex, y_ifST, y_ifSF, y_for, y_ret, y_nx, y_rt, y_bk, y_ct, y_fnR, y_fnN, y_nm, y_tp, y_tgn, y_tgc, y_tgk, v_add, v_sub, v_eqI, v_eqS, v_eqB, v_neI, v_neS, v_neB, v_lt, v_le, v_gt, v_ge, v_lenT, v_lenL, v_lenF, v_tupL, v_tupT, v_listL, v_listT, v_intI, v_intB, v_max, v_min, v_ixT, v_ixL, v_at0, v_at1, v_at2, y_lst4, y_lst5, y_lst6, y_lst7, y_tup5, y_tup6, y_sl1, y_sl1i, y_sl2, y_sl2i, y_sl3, v_slF, v_slL, v_slT, w_0, w_1, y_part, y_sl1v, y_sl1b, y_sl1n, y_sl2v, y_sl2b, y_sl2n, v_isTT, v_isTI, v_isTB, v_isTS, v_isIT, v_isII, v_isIB, v_isIS, v_isBT, v_isBI, v_isBB, v_isBS, v_isST, v_isSI, v_isSB, v_isSS, v_isN, x_rev, x_join, x_fmt, x_fstr, x_zipS, y_rev, y_join1, y_join2, y_fmt, y_fstr, y_rtS, y_zipS1, y_zipS2, v_revL, List.getElem?_cons_zero, List.getElem?_cons_succ, List.set_cons_zero, List.set_cons_succ, decide_true, decide_false, Int.reduceEq, Int.reduceLT, Int.reduceLE, decide_eq_true_eq, Bool.not_true, Bool.not_false, if_true, if_false, Bool.false_eq_true, b__law_simple, e1, w0, w3]
  by_cases w4 : w = 3
  · subst w4
    obtain ⟨d, s2, e2, p2, q2, k2, o2⟩ := pick_run (G := G) (n := n) s1 o1 (by omega) 2 (by decide) (by decide) g
    refine ⟨.int d, s2, ?_, rfl, by omega, o2⟩
    simp -implicitDefEqProofs only [x_var, y_var, x_con, x_glob, x_bin, x_neg, x_cmp, x_chain, x_isN, x_notN, x_and, x_and1, x_or, x_or1, x_not, x_ife, x_call, x_callP, x_bi, x_isi, x_listRg, x_ix, x_sl, x_tup, x_lst, x_comp, x_compIf, x_box, x_pop, x_popAt, x_append, x_nil, x_cons, x_seq, x_rng1, x_rng2, x_zip, x_asg, x_setix, x_aug, x_ex, x_if, x_for, x_while, x_ret, x_brk, x_cont, x_bnil, x_bcons, y_rt1, y_rtB, y_bin1, y_bin2, y_cmp1, y_cmp2, y_neg, y_isN, y_notN, y_andT, y_andF, y_orT, y_orF, y_not, y_ifT, y_ifF, y_chain1, y_chain2, y_chainT, y_chainF, y_chain3, y_cons1, y_cons2, y_call, y_callP, y_bi, y_isi, y_ix1, y_ix2, y_tup0, y_tup1, y_tup2, y_tup3, y_tup4, y_lst0, y_lst1, y_lst2, y_lst3, y_lc, y_box, y_pop, y_popAt1, y_popAt2, y_append1, y_append2, y_rtL, y_seq, y_seqT, y_seqL, y_rng21, y_zip1, y_zip2, y_zipT, y_zipL, y_rtE, y_asg, y_set1, y_set2, y_set3, y_aug, y_augA, y_augS, y_ex, y_ifST, y_ifSF, y_for, y_ret, y_nx, y_rt, y_bk, y_ct, y_fnR, y_fnN, y_nm, y_tp, y_tgn, y_tgc, y_tgk, v_add, v_sub, v_eqI, v_eqS, v_eqB, v_neI, v_neS, v_neB, v_lt, v_le, v_gt, v_ge, v_lenT, v_lenL, v_lenF, v_tupL, v_tupT, v_listL, v_listT, v_intI, v_intB, v_max, v_min, v_ixT, v_ixL, v_at0, v_at1, v_at2, y_lst4, y_lst5, y_lst6, y_lst7, y_tup5, y_tup6, y_sl1, y_sl1i, y_sl2, y_sl2i, y_sl3, v_slF, v_slL, v_slT, w_0, w_1, y_part, y_sl1v, y_sl1b, y_sl1n, y_sl2v, y_sl2b, y_sl2n, v_isTT, v_isTI, v_isTB, v_isTS, v_isIT, v_isII, v_isIB, v_isIS, v_isBT, v_isBI, v_isBB, v_isBS, v_isST, v_isSI, v_isSB, v_isSS, v_isN, x_rev, x_join, x_fmt, x_fstr, x_zipS, y_rev, y_join1, y_join2, y_fmt, y_fstr, y_rtS, y_zipS1, y_zipS2, v_revL, List.getElem?_cons_zero, List.getElem?_cons_succ, List.set_cons_zero, List.set_cons_succ, decide_true, decide_false, Int.reduceEq, Int.reduceLT, Int.reduceLE, decide_eq_true_eq, Bool.not_true, Bool.not_false, if_true, if_false, Bool.false_eq_true, b__law_simple, e1, w0, w3, e2]
  by_cases w5 : w = 4
  · subst w5
    obtain ⟨d, s2, e2, p2, q2, k2, o2⟩ := pick_run (G := G) (n := n) s1 o1 (by omega) 10000000000 (by decide) (by decide) g
    refine ⟨.int (d - 5 * 1000000000), s2, ?_, rfl, by omega, o2⟩
    simp -implicitDefEqProofs only [x_var, y_var, x_con, x_glob, x_bin, x_neg, x_cmp, x_chain, x_isN, x_notN, x_and, x_and1, x_or, x_or1, x_not, x_ife, x_call, x_callP, x_bi, x_isi, x_listRg, x_ix, x_sl, x_tup, x_lst, x_comp, x_compIf, x_box, x_pop, x_popAt, x_append, x_nil, x_cons, x_seq, x_rng1, x_rng2, x_zip, x_asg, x_setix, x_aug, x_ex, x_if, x_for, x_while, x_ret, x_brk, x_cont, x_bnil, x_bcons, y_rt1, y_rtB, y_bin1, y_bin2, y_cmp1, y_cmp2, y_neg, y_isN, y_notN, y_andT, y_andF, y_orT, y_orF, y_not, y_ifT, y_ifF, y_chain1, y_chain2, y_chainT, y_chainF, y_chain3, y_cons1, y_cons2, y_call, y_callP, y_bi, y_isi, y_ix1, y_ix2, y_tup0, y_tup1, y_tup2, y_tup3, y_tup4, y_lst0, y_lst1, y_lst2, y_lst3, y_lc, y_box, y_pop, y_popAt1, y_popAt2, y_append1, y_append2, y_rtL, y_seq, y_seqT, y_seqL, y_rng21, y_zip1, y_zip2, y_zipT, y_zipL, y_rtE, y_asg, y_set1, y_set2, y_set3, y_aug, y_augA, y_augS, y_ex, y_ifST, y_ifSF, y_for, y_ret, y_nx, y_rt, y_bk, y_ct, y_fnR, y_fnN, y_nm, y_tp, y_tgn, y_tgc, y_tgk, v_add, v_sub, v_eqI, v_eqS, v_eqB, v_neI, v_neS, v_neB, v_lt, v_le, v_gt, v_ge, v_lenT, v_lenL, v_lenF, v_tupL, v_tupT, v_listL, v_listT, v_intI, v_intB, v_max, v_min, v_ixT, v_ixL, v_at0, v_at1, v_at2, y_lst4, y_lst5, y_lst6, y_lst7, y_tup5, y_tup6, y_sl1, y_sl1i, y_sl2, y_sl2i, y_sl3, v_slF, v_slL, v_slT, w_0, w_1, y_part, y_sl1v, y_sl1b, y_sl1n, y_sl2v, y_sl2b, y_sl2n, v_isTT, v_isTI, v_isTB, v_isTS, v_isIT, v_isII, v_isIB, v_isIS, v_isBT, v_isBI, v_isBB, v_isBS, v_isST, v_isSI, v_isSB, v_isSS, v_isN, x_rev, x_join, x_fmt, x_fstr, x_zipS, y_rev, y_join1, y_join2, y_fmt, y_fstr, y_rtS, y_zipS1, y_zipS2, v_revL, List.getElem?_cons_zero, List.getElem?_cons_succ, List.set_cons_zero, List.set_cons_succ, decide_true, decide_false, Int.reduceEq, Int.reduceLT, Int.reduceLE, decide_eq_true_eq, Bool.not_true, Bool.not_false, if_true, if_false, Bool.false_eq_true, b__law_simple, e1, w0, w3, w4, e2, t10, t9, v_mul (mulOk_l (i := 5) (j := 1000000000) (by decide) (by decide))]
  by_cases w6 : w = 5
  · subst w6
    obtain ⟨d, s2, e2, p2, q2, k2, o2⟩ := pick_run (G := G) (n := n) s1 o1 (by omega) 1000000000 (by decide) (by decide) g
    obtain ⟨d3, s3, e3, p3, q3, k3, o3⟩ := pick_run (G := G) (n := n) s2 o2 (by omega) 1000000000 (by decide) (by decide) g
    have mo : mulOk (10 ^ 64) (1 + d) = true := by
      have : small (1 + d) = true := small_of (by omega) (by omega)
      simp only [mulOk, this, Bool.or_true, Bool.true_or]
    have po : powOk2 (10 ^ 64 * (1 + d)) 5 = true := by
      have hb : (10 ^ 64 * (1 + d)).natAbs < 2 ^ 300 := by
        have : (10 ^ 64 * (1 + d)) < 2 ^ 300 := by omega
        have : 0 ≤ (10 ^ 64 * (1 + d)) := by omega
        omega
      have hp : (10 ^ 64 * (1 + d)).natAbs ≠ 0 := by omega
      have : (10 ^ 64 * (1 + d)).natAbs.log2 < 300 := (Nat.log2_lt hp).mpr hb
      simp only [powOk2, Bool.and_eq_true, decide_eq_true_eq]
      refine ⟨⟨by decide, by decide⟩, by omega⟩
    have q5 : ∀ m : M, bopD m .pow (.int (10 ^ 64 * (1 + d))) (.int 5) = some (.int ((10 ^ 64 * (1 + d)) ^ 5)) := fun m => v_pow2 po
    refine ⟨.int ((10 ^ 64 * (1 + d)) ^ 5 + d3), s3, ?_, rfl, by omega, o3⟩
    simp -implicitDefEqProofs only [x_var, y_var, x_con, x_glob, x_bin, x_neg, x_cmp, x_chain, x_isN, x_notN, x_and, x_and1, x_or, x_or1, x_not, x_ife, x_call, x_callP, x_bi, x_isi, x_listRg, x_ix, x_sl, x_tup, x_lst, x_comp, x_compIf, x_box, x_pop, x_popAt, x_append, x_nil, x_cons, x_seq, x_rng1, x_rng2, x_zip, x_asg, x_setix, x_aug, x_ex, x_if, x_for, x_while, x_ret, x_brk, x_cont, x_bnil, x_bcons, y_rt1, y_rtB, y_bin1, y_bin2, y_cmp1, y_cmp2, y_neg, y_isN, y_notN, y_andT, y_andF, y_orT, y_orF, y_not, y_ifT, y_ifF, y_chain1, y_chain2, y_chainT, y_chainF, y_chain3, y_cons1, y_cons2, y_call, y_callP, y_bi, y_isi, y_ix1, y_ix2, y_tup0, y_tup1, y_tup2, y_tup3, y_tup4, y_lst0, y_lst1, y_lst2, y_lst3, y_lc, y_box, y_pop, y_popAt1, y_popAt2, y_append1, y_append2, y_rtL, y_seq, y_seqT, y_seqL, y_rng21, y_zip1, y_zip2, y_zipT, y_zipL, y_rtE, y_asg, y_set1, y_set2, y_set3, y_aug, y_augA, y_augS, y_ex, y_ifST, y_ifSF, y_for, y_ret, y_nx, y_rt, y_bk, y_ct, y_fnR, y_fnN, y_nm, y_tp, y_tgn, y_tgc, y_tgk, v_add, v_sub, v_eqI, v_eqS, v_eqB, v_neI, v_neS, v_neB, v_lt, v_le, v_gt, v_ge, v_lenT, v_lenL, v_lenF, v_tupL, v_tupT, v_listL, v_listT, v_intI, v_intB, v_max, v_min, v_ixT, v_ixL, v_at0, v_at1, v_at2, y_lst4, y_lst5, y_lst6, y_lst7, y_tup5, y_tup6, y_sl1, y_sl1i, y_sl2, y_sl2i, y_sl3, v_slF, v_slL, v_slT, w_0, w_1, y_part, y_sl1v, y_sl1b, y_sl1n, y_sl2v, y_sl2b, y_sl2n, v_isTT, v_isTI, v_isTB, v_isTS, v_isIT, v_isII, v_isIB, v_isIS, v_isBT, v_isBI, v_isBB, v_isBS, v_isST, v_isSI, v_isSB, v_isSS, v_isN, x_rev, x_join, x_fmt, x_fstr, x_zipS, y_rev, y_join1, y_join2, y_fmt, y_fstr, y_rtS, y_zipS1, y_zipS2, v_revL, List.getElem?_cons_zero, List.getElem?_cons_succ, List.set_cons_zero, List.set_cons_succ, decide_true, decide_false, Int.reduceEq, Int.reduceLT, Int.reduceLE, decide_eq_true_eq, Bool.not_true, Bool.not_false, if_true, if_false, Bool.false_eq_true, b__law_simple, e1, w0, w3, w4, w5, t9, t64, e2, v_mul mo, q5, e3]
  obtain ⟨bd, ebd, hbd⟩ := at_any (P := fun x => ∃ i : Int, x = .int i ∧ 0 < i ∧ i ≤ 13) (l := [.int 2, .int 13]) (by
    intro x hx
    simp only [List.mem_cons, List.not_mem_nil, or_false] at hx
    rcases hx with rfl | rfl
    · exact ⟨2, rfl, by decide, by decide⟩
    · exact ⟨13, rfl, by decide, by decide⟩) (d := w - 6) (by omega) (by simp; omega)
  obtain ⟨bd, rfl, hb0, hb1⟩ := hbd
  obtain ⟨d, s2, e2, p2, q2, k2, o2⟩ := pick_run (G := G) (n := n) s1 o1 (by omega) bd hb0 (by omega) g
  obtain ⟨c, rfl⟩ := Int.eq_ofNat_of_zero_le p2
  have hl : (rangeD 0 c).length ≤ lim := by rw [rangeD_len]; exact lim10 (by omega)
  obtain ⟨vs, m', hc, ss, hvs, hlen, hss, s3, rfl, k3, o3⟩ := comp_ok (t := .nm 3) (te := evE (run tab G (n + 1)) G (.ix (.var 2) (.call 2 (.cons (.var 0) (.cons (.con (.int 94)) .nil)))))
    (fun i acc m => ∃ ss : List Str, acc = ss.map .str ∧ ss.length = i ∧ (∀ x ∈ ss, PyData.strOk x = true ∧ x.length = 1) ∧ ∃ s3 : Dk, m = mem s3 g ∧ s3.k = s2.k + i ∧ s3.Ok)
    (rangeD 0 c) [some (.ref 1), some (.int w), some (.str sgn), none] (mem s2 g) ⟨[], rfl, rfl, by simp, s2, rfl, rfl, o2⟩ (by
      rintro i hi acc m ⟨ss, rfl, hl, hss, s3, rfl, k3, o3⟩
      rw [rangeD_len] at hi
      obtain ⟨d4, s4, e4, p4, q4, k4, o4⟩ := pick_run (G := G) (n := n) s3 o3 (by omega) 94 (by decide) (by decide) g
      obtain ⟨ch, e5, h5, h6⟩ := sign_at (m := mem s4 g) sgn_ok.1 (lim10 (by rw [sgn_ok.2]; decide)) p4 (by rw [sgn_ok.2]; exact q4)
      refine ⟨_, .str ch, mem s4 g, y_nm, by simp -implicitDefEqProofs only [x_var, y_var, x_con, x_glob, x_bin, x_neg, x_cmp, x_chain, x_isN, x_notN, x_and, x_and1, x_or, x_or1, x_not, x_ife, x_call, x_callP, x_bi, x_isi, x_listRg, x_ix, x_sl, x_tup, x_lst, x_comp, x_compIf, x_box, x_pop, x_popAt, x_append, x_nil, x_cons, x_seq, x_rng1, x_rng2, x_zip, x_asg, x_setix, x_aug, x_ex, x_if, x_for, x_while, x_ret, x_brk, x_cont, x_bnil, x_bcons, y_rt1, y_rtB, y_bin1, y_bin2, y_cmp1, y_cmp2, y_neg, y_isN, y_notN, y_andT, y_andF, y_orT, y_orF, y_not, y_ifT, y_ifF, y_chain1, y_chain2, y_chainT, y_chainF, y_chain3, y_cons1, y_cons2, y_call, y_callP, y_bi, y_isi, y_ix1, y_ix2, y_tup0, y_tup1, y_tup2, y_tup3, y_tup4, y_lst0, y_lst1, y_lst2, y_lst3, y_lc, y_box, y_pop, y_popAt1, y_popAt2, y_append1, y_append2, y_rtL, y_seq, y_seqT, y_seqL, y_rng21, y_zip1, y_zip2, y_zipT, y_zipL, y_rtE, y_asg, y_set1, y_set2, y_set3, y_aug, y_augA, y_augS, y_ex, y_ifST, y_ifSF, y_for, y_ret, y_nx, y_rt, y_bk, y_ct, y_fnR, y_fnN, y_nm, y_tp, y_tgn, y_tgc, y_tgk, v_add, v_sub, v_eqI, v_eqS, v_eqB, v_neI, v_neS, v_neB, v_lt, v_le, v_gt, v_ge, v_lenT, v_lenL, v_lenF, v_tupL, v_tupT, v_listL, v_listT, v_intI, v_intB, v_max, v_min, v_ixT, v_ixL, v_at0, v_at1, v_at2, y_lst4, y_lst5, y_lst6, y_lst7, y_tup5, y_tup6, y_sl1, y_sl1i, y_sl2, y_sl2i, y_sl3, v_slF, v_slL, v_slT, w_0, w_1, y_part, y_sl1v, y_sl1b, y_sl1n, y_sl2v, y_sl2b, y_sl2n, v_isTT, v_isTI, v_isTB, v_isTS, v_isIT, v_isII, v_isIB, v_isIS, v_isBT, v_isBI, v_isBB, v_isBS, v_isST, v_isSI, v_isSB, v_isSS, v_isN, x_rev, x_join, x_fmt, x_fstr, x_zipS, y_rev, y_join1, y_join2, y_fmt, y_fstr, y_rtS, y_zipS1, y_zipS2, v_revL, List.getElem?_cons_zero, List.getElem?_cons_succ, List.set_cons_zero, List.set_cons_succ, decide_true, decide_false, Int.reduceEq, Int.reduceLT, Int.reduceLE, decide_eq_true_eq, Bool.not_true, Bool.not_false, if_true, if_false, Bool.false_eq_true, e4, e5], ss ++ [ch], by simp, by simp [hl], ?_, s4, rfl, by omega, o4⟩
      intro x hx
      rcases List.mem_append.mp hx with hx | hx
      · exact hss x hx
      · rw [List.mem_singleton.mp hx]; exact ⟨h5, h6⟩)
  rw [rangeD_len] at hlen k3
  subst hvs
  have hsum : ∀ l : List Str, (∀ x ∈ l, PyData.strOk x = true ∧ x.length = 1) → (l.map (·.length)).sum = l.length := by
    intro l
    induction l with
    | nil => intro _; rfl
    | cons x r ih => intro h; simp only [List.map_cons, List.sum_cons, List.length_cons]; rw [ih fun y hy => h y (List.mem_cons_of_mem _ hy), (h x List.mem_cons_self).2]; omega
  have hz := hsum ss hss
  have e0 : (Str.ofString "").length = 0 := by decide +kernel
  have jn : ∀ m : M, joinD m (.str "") (.lst (ss.map .str)) = some (.str (Str.join "" ss)) := by
    intro m
    show ((seqOf m (.lst (ss.map .str))).bind fun ys => (strsD ys).bind fun ss => if (ss.map (·.length)).sum + ss.length * (Str.ofString "").length ≤ lim then some (D.str (Str.join "" ss)) else none) = _
    have : seqOf m (.lst (ss.map .str)) = some (ss.map .str) := rfl
    rw [this, Option.bind_some, strs_ok, Option.bind_some, if_pos]
    rw [hz, e0]
    exact lim10 (by omega)
  have jl : (Str.join "" ss).length ≤ 1000 := by
    have := StrLaws.join_length_le "" ss
    rw [hz, e0] at this
    omega
  refine ⟨.str (Str.join "" ss), s3, ?_, ?_, by omega, o3⟩
  · have eR : ∀ m : M, kRng1 (some (.int (c : Int), m)) = some (rangeD 0 c, m) := fun m => by rw [y_rng1 (rgOk_of (by omega) (by omega)), Int.toNat_natCast]
    have hsg : (Str.ofString " !\"#$&'()*+,-./0123456789:;<=>?@ABCDEFGHIJKLMNOPQRSTUVWXYZ[\\]^_`abcdefghijklmnopqrstuvwxyz{|}~") = sgn := rfl
    simp -implicitDefEqProofs only [x_var, y_var, x_con, x_glob, x_bin, x_neg, x_cmp, x_chain, x_isN, x_notN, x_and, x_and1, x_or, x_or1, x_not, x_ife, x_call, x_callP, x_bi, x_isi, x_listRg, x_ix, x_sl, x_tup, x_lst, x_comp, x_compIf, x_box, x_pop, x_popAt, x_append, x_nil, x_cons, x_seq, x_rng1, x_rng2, x_zip, x_asg, x_setix, x_aug, x_ex, x_if, x_for, x_while, x_ret, x_brk, x_cont, x_bnil, x_bcons, y_rt1, y_rtB, y_bin1, y_bin2, y_cmp1, y_cmp2, y_neg, y_isN, y_notN, y_andT, y_andF, y_orT, y_orF, y_not, y_ifT, y_ifF, y_chain1, y_chain2, y_chainT, y_chainF, y_chain3, y_cons1, y_cons2, y_call, y_callP, y_bi, y_isi, y_ix1, y_ix2, y_tup0, y_tup1, y_tup2, y_tup3, y_tup4, y_lst0, y_lst1, y_lst2, y_lst3, y_lc, y_box, y_pop, y_popAt1, y_popAt2, y_append1, y_append2, y_rtL, y_seq, y_seqT, y_seqL, y_rng21, y_zip1, y_zip2, y_zipT, y_zipL, y_rtE, y_asg, y_set1, y_set2, y_set3, y_aug, y_augA, y_augS, y_ex, y_ifST, y_ifSF, y_for, y_ret, y_nx, y_rt, y_bk, y_ct, y_fnR, y_fnN, y_nm, y_tp, y_tgn, y_tgc, y_tgk, v_add, v_sub, v_eqI, v_eqS, v_eqB, v_neI, v_neS, v_neB, v_lt, v_le, v_gt, v_ge, v_lenT, v_lenL, v_lenF, v_tupL, v_tupT, v_listL, v_listT, v_intI, v_intB, v_max, v_min, v_ixT, v_ixL, v_at0, v_at1, v_at2, y_lst4, y_lst5, y_lst6, y_lst7, y_tup5, y_tup6, y_sl1, y_sl1i, y_sl2, y_sl2i, y_sl3, v_slF, v_slL, v_slT, w_0, w_1, y_part, y_sl1v, y_sl1b, y_sl1n, y_sl2v, y_sl2b, y_sl2n, v_isTT, v_isTI, v_isTB, v_isTS, v_isIT, v_isII, v_isIB, v_isIS, v_isBT, v_isBI, v_isBB, v_isBS, v_isST, v_isSI, v_isSB, v_isSS, v_isN, x_rev, x_join, x_fmt, x_fstr, x_zipS, y_rev, y_join1, y_join2, y_fmt, y_fstr, y_rtS, y_zipS1, y_zipS2, v_revL, List.getElem?_cons_zero, List.getElem?_cons_succ, List.set_cons_zero, List.set_cons_succ, decide_true, decide_false, Int.reduceEq, Int.reduceLT, Int.reduceLE, decide_eq_true_eq, Bool.not_true, Bool.not_false, if_true, if_false, Bool.false_eq_true, b__law_simple, e1, w0, w3, w4, w5, w6, hsg, ebd, e2, eR, y_comp hl, hc, jn]
  · rw [okN, Bool.and_eq_true, decide_eq_true_eq]
    exact ⟨strOk_join (by decide +kernel) fun x hx => (hss x hx).1, jl⟩
end Lw

namespace Lw
open PySem Pv
def getP : List Nat → D → Option D
  | [], x => some x
  | k :: r, .tup xs => (xs[k]?).bind (getP r)
  | _ :: _, _ => none
def sm (x : D) : Prop := ∀ p xs, getP p x = some (.tup xs) → xs.length ≤ 900
theorem sm_flat {x : D} (h : okN 0 x = true) : sm x := by
  intro p xs hp
  cases x <;> first | (simp [okN] at h; done) | (cases p <;> simp [getP] at hp)
theorem sm_tup {vs : List D} (hl : vs.length ≤ 900) (h : ∀ x ∈ vs, sm x) : sm (.tup vs) := by
  intro p xs hp
  cases p with
  | nil => simp only [getP, Option.some.injEq, D.tup.injEq] at hp; rw [← hp]; exact hl
  | cons k r =>
    simp only [getP] at hp
    obtain ⟨z, h1, h2⟩ := Option.bind_eq_some_iff.mp hp
    exact h z (List.mem_of_getElem? h1) r xs h2
def T : Nat → Nat
  | 0 => 25
  | d + 1 => 25 + 5 * T d
def Sz : Nat → Nat
  | 0 => 1
  | d + 1 => 1 + 4 * Sz d
theorem Sz_pos : ∀ d, 0 < Sz d
  | 0 => by decide
  | d + 1 => by unfold Sz; omega
theorem T_ge : ∀ d, 25 ≤ T d
  | 0 => by decide
  | d + 1 => by unfold T; omega
theorem thing_ok {G : List D} {n0 : Nat} {g : M} : ∀ (d : Nat) (deep room : Int) (s : Dk), deep ≤ d → 0 ≤ room → room ≤ 40 → s.Ok → s.k + T d < 2 ^ 40 →
    ∃ r s', run tab G (n0 + d + 3) 5 [.ref 1, .int deep, .int room] (mem s g) = some (r, mem s' g) ∧ okN d r = true ∧ sz r ≤ Sz d ∧ s'.k ≤ s.k + T d ∧ s'.Ok ∧ sm r := by
  intro d
  induction d with
  | zero =>
    intro deep room s hd h0 h1 ok hk
    obtain ⟨r, s1, e1, o1, k1, ok1⟩ := simple_ok (G := G) (n := n0) s ok (by simp [T] at hk; omega) g
    refine ⟨r, s1, ?_, o1, by rw [sz_flat o1]; decide, by simp [T]; omega, ok1, sm_flat o1⟩
    rw [show n0 + 0 + 3 = (n0 + 2) + 1 by omega, run__law_thing, r__law_thing]
    have c : (deep < 1) = True := by simp only [eq_iff_iff, iff_true]; omega
    simp -implicitDefEqProofs only [x_var, y_var, x_con, x_glob, x_bin, x_neg, x_cmp, x_chain, x_isN, x_notN, x_and, x_and1, x_or, x_or1, x_not, x_ife, x_call, x_callP, x_bi, x_isi, x_listRg, x_ix, x_sl, x_tup, x_lst, x_comp, x_compIf, x_box, x_pop, x_popAt, x_append, x_nil, x_cons, x_seq, x_rng1, x_rng2, x_zip, x_asg, x_setix, x_aug, x_ex, x_if, x_for, x_while, x_ret, x_brk, x_cont, x_bnil, x_bcons, y_rt1, y_rtB, y_bin1, y_bin2, y_cmp1, y_cmp2, y_neg, y_isN, y_notN, y_andT, y_andF, y_orT, y_orF, y_not, y_ifT, y_ifF, y_chain1, y_chain2, y_chainT, y_chainF, y_chain3, y_cons1, y_cons2, y_call, y_callP, y_bi, y_isi, y_ix1, y_ix2, y_tup0, y_tup1, y_tup2, y_tup3, y_tup4, y_lst0, y_lst1, y_lst2, y_lst3, y_lc, y_box, y_pop, y_popAt1, y_popAt2, y_append1, y_append2, y_rtL, y_seq, y_seqT, y_seqL, y_rng21, y_zip1, y_zip2, y_zipT, y_zipL, y_rtE, y_asg, y_set1, y_set2, y_set3, y_aug, y_augA, y_augS, y_ex, y_ifST, y_ifSF, y_for, y_ret, y_nx, y_rt, y_bk, y_ct, y_fnR, y_fnN, y_nm, y_tp, y_tgn, y_tgc, y_tgk, v_add, v_sub, v_eqI, v_eqS, v_eqB, v_neI, v_neS, v_neB, v_lt, v_le, v_gt, v_ge, v_lenT, v_lenL, v_lenF, v_tupL, v_tupT, v_listL, v_listT, v_intI, v_intB, v_max, v_min, v_ixT, v_ixL, v_at0, v_at1, v_at2, y_lst4, y_lst5, y_lst6, y_lst7, y_tup5, y_tup6, y_sl1, y_sl1i, y_sl2, y_sl2i, y_sl3, v_slF, v_slL, v_slT, w_0, w_1, y_part, y_sl1v, y_sl1b, y_sl1n, y_sl2v, y_sl2b, y_sl2n, v_isTT, v_isTI, v_isTB, v_isTS, v_isIT, v_isII, v_isIB, v_isIS, v_isBT, v_isBI, v_isBB, v_isBS, v_isST, v_isSI, v_isSB, v_isSS, v_isN, x_rev, x_join, x_fmt, x_fstr, x_zipS, y_rev, y_join1, y_join2, y_fmt, y_fstr, y_rtS, y_zipS1, y_zipS2, v_revL, List.getElem?_cons_zero, List.getElem?_cons_succ, List.set_cons_zero, List.set_cons_succ, decide_true, decide_false, Int.reduceEq, Int.reduceLT, Int.reduceLE, decide_eq_true_eq, Bool.not_true, Bool.not_false, if_true, if_false, Bool.false_eq_true, b__law_thing, c, e1]
  | succ d ih =>
    intro deep room s hd h0 h1 ok hk
    have hT : T (d + 1) = 25 + 5 * T d := rfl
    have hT0 := T_ge d
    rw [show n0 + (d + 1) + 3 = (n0 + d + 3) + 1 by omega, run__law_thing, r__law_thing]
    by_cases hc : deep < 1
    · obtain ⟨r, s1, e1, o1, k1, ok1⟩ := simple_ok (G := G) (n := n0 + d + 1) s ok (by omega) g
      refine ⟨r, s1, ?_, okN_flat o1, by rw [sz_flat o1]; exact Sz_pos _, by omega, ok1, sm_flat o1⟩
      simp -implicitDefEqProofs only [x_var, y_var, x_con, x_glob, x_bin, x_neg, x_cmp, x_chain, x_isN, x_notN, x_and, x_and1, x_or, x_or1, x_not, x_ife, x_call, x_callP, x_bi, x_isi, x_listRg, x_ix, x_sl, x_tup, x_lst, x_comp, x_compIf, x_box, x_pop, x_popAt, x_append, x_nil, x_cons, x_seq, x_rng1, x_rng2, x_zip, x_asg, x_setix, x_aug, x_ex, x_if, x_for, x_while, x_ret, x_brk, x_cont, x_bnil, x_bcons, y_rt1, y_rtB, y_bin1, y_bin2, y_cmp1, y_cmp2, y_neg, y_isN, y_notN, y_andT, y_andF, y_orT, y_orF, y_not, y_ifT, y_ifF, y_chain1, y_chain2, y_chainT, y_chainF, y_chain3, y_cons1, y_cons2, y_call, y_callP, y_bi, y_isi, y_ix1, y_ix2, y_tup0, y_tup1, y_tup2, y_tup3, y_tup4, y_lst0, y_lst1, y_lst2, y_lst3, y_lc, y_box, y_pop, y_popAt1, y_popAt2, y_append1, y_append2, y_rtL, y_seq, y_seqT, y_seqL, y_rng21, y_zip1, y_zip2, y_zipT, y_zipL, y_rtE, y_asg, y_set1, y_set2, y_set3, y_aug, y_augA, y_augS, y_ex, y_ifST, y_ifSF, y_for, y_ret, y_nx, y_rt, y_bk, y_ct, y_fnR, y_fnN, y_nm, y_tp, y_tgn, y_tgc, y_tgk, v_add, v_sub, v_eqI, v_eqS, v_eqB, v_neI, v_neS, v_neB, v_lt, v_le, v_gt, v_ge, v_lenT, v_lenL, v_lenF, v_tupL, v_tupT, v_listL, v_listT, v_intI, v_intB, v_max, v_min, v_ixT, v_ixL, v_at0, v_at1, v_at2, y_lst4, y_lst5, y_lst6, y_lst7, y_tup5, y_tup6, y_sl1, y_sl1i, y_sl2, y_sl2i, y_sl3, v_slF, v_slL, v_slT, w_0, w_1, y_part, y_sl1v, y_sl1b, y_sl1n, y_sl2v, y_sl2b, y_sl2n, v_isTT, v_isTI, v_isTB, v_isTS, v_isIT, v_isII, v_isIB, v_isIS, v_isBT, v_isBI, v_isBB, v_isBS, v_isST, v_isSI, v_isSB, v_isSS, v_isN, x_rev, x_join, x_fmt, x_fstr, x_zipS, y_rev, y_join1, y_join2, y_fmt, y_fstr, y_rtS, y_zipS1, y_zipS2, v_revL, List.getElem?_cons_zero, List.getElem?_cons_succ, List.set_cons_zero, List.set_cons_succ, decide_true, decide_false, Int.reduceEq, Int.reduceLT, Int.reduceLE, decide_eq_true_eq, Bool.not_true, Bool.not_false, if_true, if_false, Bool.false_eq_true, b__law_thing, hc, e1]
    -- the parts
    have go : ∀ s1 : Dk, s1.Ok → s1.k ≤ s.k + 1 → ∃ r s', kFn (evB (run tab G (n0 + d + 3)) G (.cons (.asg (.nm 3) (.call 2 (.cons (.var 0) (.cons (.con (.int 5)) .nil)))) (.cons (.ret (.bi .tuple (.cons (.comp [("_law_k", 4)] (.nm 4) (.rng1 (.bi .min2 (.cons (.var 3) (.cons (.var 2) .nil)))) (.call 5 (.cons (.var 0) (.cons (.bin .sub (.bin .sub (.var 1) (.con (.int 1))) (.call 2 (.cons (.var 0) (.cons (.con (.int 3)) .nil)))) (.cons (.bin .fdiv (.var 2) (.var 3)) .nil))))) .nil))) .nil)) [some (.ref 1), some (.int deep), some (.int room), none, none] (mem s1 g)) = some (r, mem s' g) ∧ okN (d + 1) r = true ∧ sz r ≤ Sz (d + 1) ∧ s'.k ≤ s.k + T (d + 1) ∧ s'.Ok ∧ sm r := by
      intro s1 ok1 k1
      obtain ⟨w, s2, e2, p2, q2, k2, ok2⟩ := pick_run (G := G) (n := n0 + d + 2) s1 ok1 (by omega) 5 (by decide) (by decide) g
      obtain ⟨c, hc, hc4, hcw⟩ : ∃ c : Nat, (if room < w then room else w) = (c : Int) ∧ c ≤ 4 ∧ (0 < c → 0 < w) := by
        refine ⟨(if room < w then room else w).toNat, ?_, ?_, ?_⟩ <;> split <;> omega
      have hl : (rangeD 0 c).length ≤ lim := by rw [rangeD_len]; exact lim10 (by omega)
      obtain ⟨vs, m', hcm, hlen, hvs, s3, rfl, k3, ok3⟩ := comp_ok (t := .nm 4) (te := evE (run tab G (n0 + d + 3)) G (.call 5 (.cons (.var 0) (.cons (.bin .sub (.bin .sub (.var 1) (.con (.int 1))) (.call 2 (.cons (.var 0) (.cons (.con (.int 3)) .nil)))) (.cons (.bin .fdiv (.var 2) (.var 3)) .nil)))))
        (fun i acc m => acc.length = i ∧ (∀ x ∈ acc, okN d x = true ∧ sz x ≤ Sz d ∧ sm x) ∧ ∃ s3 : Dk, m = mem s3 g ∧ s3.k ≤ s2.k + i * (1 + T d) ∧ s3.Ok)
        (rangeD 0 c) [some (.ref 1), some (.int deep), some (.int room), some (.int w), none] (mem s2 g) ⟨rfl, by simp, s2, rfl, by omega, ok2⟩ (by
          rintro i hi acc m ⟨hl, hvs, s3, rfl, k3, ok3⟩
          rw [rangeD_len] at hi
          have hw : 0 < w := hcw (by omega)
          have him : i * (1 + T d) ≤ 3 * (1 + T d) := Nat.mul_le_mul_right _ (by omega)
          have him2 : (i + 1) * (1 + T d) = i * (1 + T d) + (1 + T d) := Nat.succ_mul _ _
          obtain ⟨u, s4, e4, p4, q4, k4, ok4⟩ := pick_run (G := G) (n := n0 + d + 2) s3 ok3 (by omega) 3 (by decide) (by decide) g
          have hq0 : 0 ≤ room / w := Int.ediv_nonneg h0 (by omega)
          have hq1 : room / w ≤ 40 := Int.le_trans (Int.ediv_le_self _ h0) h1
          obtain ⟨r, s5, e5, o5, z5, k5, ok5, sm5⟩ := ih (deep - 1 - u) (room / w) s4 (by omega) hq0 hq1 ok4 (by omega)
          have hdv : divOk w = true := by simp [divOk, hw, log_of hw (show w < 2 ^ 64 by omega)]
          refine ⟨_, r, mem s5 g, y_nm, by simp -implicitDefEqProofs only [x_var, y_var, x_con, x_glob, x_bin, x_neg, x_cmp, x_chain, x_isN, x_notN, x_and, x_and1, x_or, x_or1, x_not, x_ife, x_call, x_callP, x_bi, x_isi, x_listRg, x_ix, x_sl, x_tup, x_lst, x_comp, x_compIf, x_box, x_pop, x_popAt, x_append, x_nil, x_cons, x_seq, x_rng1, x_rng2, x_zip, x_asg, x_setix, x_aug, x_ex, x_if, x_for, x_while, x_ret, x_brk, x_cont, x_bnil, x_bcons, y_rt1, y_rtB, y_bin1, y_bin2, y_cmp1, y_cmp2, y_neg, y_isN, y_notN, y_andT, y_andF, y_orT, y_orF, y_not, y_ifT, y_ifF, y_chain1, y_chain2, y_chainT, y_chainF, y_chain3, y_cons1, y_cons2, y_call, y_callP, y_bi, y_isi, y_ix1, y_ix2, y_tup0, y_tup1, y_tup2, y_tup3, y_tup4, y_lst0, y_lst1, y_lst2, y_lst3, y_lc, y_box, y_pop, y_popAt1, y_popAt2, y_append1, y_append2, y_rtL, y_seq, y_seqT, y_seqL, y_rng21, y_zip1, y_zip2, y_zipT, y_zipL, y_rtE, y_asg, y_set1, y_set2, y_set3, y_aug, y_augA, y_augS, y_ex, y_ifST, y_ifSF, y_for, y_ret, y_nx, y_rt, y_bk, y_ct, y_fnR, y_fnN, y_nm, y_tp, y_tgn, y_tgc, y_tgk, v_add, v_sub, v_eqI, v_eqS, v_eqB, v_neI, v_neS, v_neB, v_lt, v_le, v_gt, v_ge, v_lenT, v_lenL, v_lenF, v_tupL, v_tupT, v_listL, v_listT, v_intI, v_intB, v_max, v_min, v_ixT, v_ixL, v_at0, v_at1, v_at2, y_lst4, y_lst5, y_lst6, y_lst7, y_tup5, y_tup6, y_sl1, y_sl1i, y_sl2, y_sl2i, y_sl3, v_slF, v_slL, v_slT, w_0, w_1, y_part, y_sl1v, y_sl1b, y_sl1n, y_sl2v, y_sl2b, y_sl2n, v_isTT, v_isTI, v_isTB, v_isTS, v_isIT, v_isII, v_isIB, v_isIS, v_isBT, v_isBI, v_isBB, v_isBS, v_isST, v_isSI, v_isSB, v_isSS, v_isN, x_rev, x_join, x_fmt, x_fstr, x_zipS, y_rev, y_join1, y_join2, y_fmt, y_fstr, y_rtS, y_zipS1, y_zipS2, v_revL, List.getElem?_cons_zero, List.getElem?_cons_succ, List.set_cons_zero, List.set_cons_succ, decide_true, decide_false, Int.reduceEq, Int.reduceLT, Int.reduceLE, decide_eq_true_eq, Bool.not_true, Bool.not_false, if_true, if_false, Bool.false_eq_true, e4, v_fdiv hdv, e5], by simp [hl], ?_, s5, rfl, by omega, ok5⟩
          intro x hx
          rcases List.mem_append.mp hx with hx | hx
          · exact hvs x hx
          · rw [List.mem_singleton.mp hx]; exact ⟨o5, z5, sm5⟩)
      rw [rangeD_len] at hlen k3
      have him : c * (1 + T d) ≤ 4 * (1 + T d) := Nat.mul_le_mul_right _ hc4
      refine ⟨.tup vs, s3, ?_, okN_tup.mpr ⟨by omega, fun x hx => (hvs x hx).1⟩, ?_, by omega, ok3, sm_tup (by omega) fun x hx => (hvs x hx).2.2⟩
      · have eR : ∀ m : M, kRng1 (some (.int (c : Int), m)) = some (rangeD 0 c, m) := fun m => by rw [y_rng1 (rgOk_of (by omega) (by omega)), Int.toNat_natCast]
        simp -implicitDefEqProofs only [x_var, y_var, x_con, x_glob, x_bin, x_neg, x_cmp, x_chain, x_isN, x_notN, x_and, x_and1, x_or, x_or1, x_not, x_ife, x_call, x_callP, x_bi, x_isi, x_listRg, x_ix, x_sl, x_tup, x_lst, x_comp, x_compIf, x_box, x_pop, x_popAt, x_append, x_nil, x_cons, x_seq, x_rng1, x_rng2, x_zip, x_asg, x_setix, x_aug, x_ex, x_if, x_for, x_while, x_ret, x_brk, x_cont, x_bnil, x_bcons, y_rt1, y_rtB, y_bin1, y_bin2, y_cmp1, y_cmp2, y_neg, y_isN, y_notN, y_andT, y_andF, y_orT, y_orF, y_not, y_ifT, y_ifF, y_chain1, y_chain2, y_chainT, y_chainF, y_chain3, y_cons1, y_cons2, y_call, y_callP, y_bi, y_isi, y_ix1, y_ix2, y_tup0, y_tup1, y_tup2, y_tup3, y_tup4, y_lst0, y_lst1, y_lst2, y_lst3, y_lc, y_box, y_pop, y_popAt1, y_popAt2, y_append1, y_append2, y_rtL, y_seq, y_seqT, y_seqL, y_rng21, y_zip1, y_zip2, y_zipT, y_zipL, y_rtE, y_asg, y_set1, y_set2, y_set3, y_aug, y_augA, y_augS, y_ex, y_ifST, y_ifSF, y_for, y_ret, y_nx, y_rt, y_bk, y_ct, y_fnR, y_fnN, y_nm, y_tp, y_tgn, y_tgc, y_tgk, v_add, v_sub, v_eqI, v_eqS, v_eqB, v_neI, v_neS, v_neB, v_lt, v_le, v_gt, v_ge, v_lenT, v_lenL, v_lenF, v_tupL, v_tupT, v_listL, v_listT, v_intI, v_intB, v_max, v_min, v_ixT, v_ixL, v_at0, v_at1, v_at2, y_lst4, y_lst5, y_lst6, y_lst7, y_tup5, y_tup6, y_sl1, y_sl1i, y_sl2, y_sl2i, y_sl3, v_slF, v_slL, v_slT, w_0, w_1, y_part, y_sl1v, y_sl1b, y_sl1n, y_sl2v, y_sl2b, y_sl2n, v_isTT, v_isTI, v_isTB, v_isTS, v_isIT, v_isII, v_isIB, v_isIS, v_isBT, v_isBI, v_isBB, v_isBS, v_isST, v_isSI, v_isSB, v_isSS, v_isN, x_rev, x_join, x_fmt, x_fstr, x_zipS, y_rev, y_join1, y_join2, y_fmt, y_fstr, y_rtS, y_zipS1, y_zipS2, v_revL, List.getElem?_cons_zero, List.getElem?_cons_succ, List.set_cons_zero, List.set_cons_succ, decide_true, decide_false, Int.reduceEq, Int.reduceLT, Int.reduceLE, decide_eq_true_eq, Bool.not_true, Bool.not_false, if_true, if_false, Bool.false_eq_true, e2, hc, eR, y_comp hl, hcm]
      · have h1 := szs_bound (l := vs) (b := Sz d) fun x hx => (hvs x hx).2.1
        have h2 : vs.length * Sz d ≤ 4 * Sz d := Nat.mul_le_mul_right _ (by omega)
        simp only [sz, Sz]
        omega
    by_cases hr : room < 2
    · obtain ⟨w, s1, e1, p1, q1, k1, ok1⟩ := pick_run (G := G) (n := n0 + d + 2) s ok (by omega) 2 (by decide) (by decide) g
      by_cases hw : w = 0
      · obtain ⟨r, s2, e2, o2, k2, ok2⟩ := simple_ok (G := G) (n := n0 + d + 1) s1 ok1 (by omega) g
        refine ⟨r, s2, ?_, okN_flat o2, by rw [sz_flat o2]; exact Sz_pos _, by omega, ok2, sm_flat o2⟩
        subst hw
        simp -implicitDefEqProofs only [x_var, y_var, x_con, x_glob, x_bin, x_neg, x_cmp, x_chain, x_isN, x_notN, x_and, x_and1, x_or, x_or1, x_not, x_ife, x_call, x_callP, x_bi, x_isi, x_listRg, x_ix, x_sl, x_tup, x_lst, x_comp, x_compIf, x_box, x_pop, x_popAt, x_append, x_nil, x_cons, x_seq, x_rng1, x_rng2, x_zip, x_asg, x_setix, x_aug, x_ex, x_if, x_for, x_while, x_ret, x_brk, x_cont, x_bnil, x_bcons, y_rt1, y_rtB, y_bin1, y_bin2, y_cmp1, y_cmp2, y_neg, y_isN, y_notN, y_andT, y_andF, y_orT, y_orF, y_not, y_ifT, y_ifF, y_chain1, y_chain2, y_chainT, y_chainF, y_chain3, y_cons1, y_cons2, y_call, y_callP, y_bi, y_isi, y_ix1, y_ix2, y_tup0, y_tup1, y_tup2, y_tup3, y_tup4, y_lst0, y_lst1, y_lst2, y_lst3, y_lc, y_box, y_pop, y_popAt1, y_popAt2, y_append1, y_append2, y_rtL, y_seq, y_seqT, y_seqL, y_rng21, y_zip1, y_zip2, y_zipT, y_zipL, y_rtE, y_asg, y_set1, y_set2, y_set3, y_aug, y_augA, y_augS, y_ex, y_ifST, y_ifSF, y_for, y_ret, y_nx, y_rt, y_bk, y_ct, y_fnR, y_fnN, y_nm, y_tp, y_tgn, y_tgc, y_tgk, v_add, v_sub, v_eqI, v_eqS, v_eqB, v_neI, v_neS, v_neB, v_lt, v_le, v_gt, v_ge, v_lenT, v_lenL, v_lenF, v_tupL, v_tupT, v_listL, v_listT, v_intI, v_intB, v_max, v_min, v_ixT, v_ixL, v_at0, v_at1, v_at2, y_lst4, y_lst5, y_lst6, y_lst7, y_tup5, y_tup6, y_sl1, y_sl1i, y_sl2, y_sl2i, y_sl3, v_slF, v_slL, v_slT, w_0, w_1, y_part, y_sl1v, y_sl1b, y_sl1n, y_sl2v, y_sl2b, y_sl2n, v_isTT, v_isTI, v_isTB, v_isTS, v_isIT, v_isII, v_isIB, v_isIS, v_isBT, v_isBI, v_isBB, v_isBS, v_isST, v_isSI, v_isSB, v_isSS, v_isN, x_rev, x_join, x_fmt, x_fstr, x_zipS, y_rev, y_join1, y_join2, y_fmt, y_fstr, y_rtS, y_zipS1, y_zipS2, v_revL, List.getElem?_cons_zero, List.getElem?_cons_succ, List.set_cons_zero, List.set_cons_succ, decide_true, decide_false, Int.reduceEq, Int.reduceLT, Int.reduceLE, decide_eq_true_eq, Bool.not_true, Bool.not_false, if_true, if_false, Bool.false_eq_true, b__law_thing, hc, hr, e1, e2]
      · obtain ⟨r, s2, e2, q⟩ := go s1 ok1 (by omega)
        refine ⟨r, s2, ?_, q⟩
        rw [← e2]
        simp -implicitDefEqProofs only [x_var, y_var, x_con, x_glob, x_bin, x_neg, x_cmp, x_chain, x_isN, x_notN, x_and, x_and1, x_or, x_or1, x_not, x_ife, x_call, x_callP, x_bi, x_isi, x_listRg, x_ix, x_sl, x_tup, x_lst, x_comp, x_compIf, x_box, x_pop, x_popAt, x_append, x_nil, x_cons, x_seq, x_rng1, x_rng2, x_zip, x_asg, x_setix, x_aug, x_ex, x_if, x_for, x_while, x_ret, x_brk, x_cont, x_bnil, x_bcons, y_rt1, y_rtB, y_bin1, y_bin2, y_cmp1, y_cmp2, y_neg, y_isN, y_notN, y_andT, y_andF, y_orT, y_orF, y_not, y_ifT, y_ifF, y_chain1, y_chain2, y_chainT, y_chainF, y_chain3, y_cons1, y_cons2, y_call, y_callP, y_bi, y_isi, y_ix1, y_ix2, y_tup0, y_tup1, y_tup2, y_tup3, y_tup4, y_lst0, y_lst1, y_lst2, y_lst3, y_lc, y_box, y_pop, y_popAt1, y_popAt2, y_append1, y_append2, y_rtL, y_seq, y_seqT, y_seqL, y_rng21, y_zip1, y_zip2, y_zipT, y_zipL, y_rtE, y_asg, y_set1, y_set2, y_set3, y_aug, y_augA, y_augS, y_ex, y_ifST, y_ifSF, y_for, y_ret, y_nx, y_rt, y_bk, y_ct, y_fnR, y_fnN, y_nm, y_tp, y_tgn, y_tgc, y_tgk, v_add, v_sub, v_eqI, v_eqS, v_eqB, v_neI, v_neS, v_neB, v_lt, v_le, v_gt, v_ge, v_lenT, v_lenL, v_lenF, v_tupL, v_tupT, v_listL, v_listT, v_intI, v_intB, v_max, v_min, v_ixT, v_ixL, v_at0, v_at1, v_at2, y_lst4, y_lst5, y_lst6, y_lst7, y_tup5, y_tup6, y_sl1, y_sl1i, y_sl2, y_sl2i, y_sl3, v_slF, v_slL, v_slT, w_0, w_1, y_part, y_sl1v, y_sl1b, y_sl1n, y_sl2v, y_sl2b, y_sl2n, v_isTT, v_isTI, v_isTB, v_isTS, v_isIT, v_isII, v_isIB, v_isIS, v_isBT, v_isBI, v_isBB, v_isBS, v_isST, v_isSI, v_isSB, v_isSS, v_isN, x_rev, x_join, x_fmt, x_fstr, x_zipS, y_rev, y_join1, y_join2, y_fmt, y_fstr, y_rtS, y_zipS1, y_zipS2, v_revL, List.getElem?_cons_zero, List.getElem?_cons_succ, List.set_cons_zero, List.set_cons_succ, decide_true, decide_false, Int.reduceEq, Int.reduceLT, Int.reduceLE, decide_eq_true_eq, Bool.not_true, Bool.not_false, if_true, if_false, Bool.false_eq_true, b__law_thing, hc, hr, e1, hw]
    · obtain ⟨r, s2, e2, q⟩ := go s ok (by omega)
      refine ⟨r, s2, ?_, q⟩
      rw [← e2]
      simp -implicitDefEqProofs only [x_var, y_var, x_con, x_glob, x_bin, x_neg, x_cmp, x_chain, x_isN, x_notN, x_and, x_and1, x_or, x_or1, x_not, x_ife, x_call, x_callP, x_bi, x_isi, x_listRg, x_ix, x_sl, x_tup, x_lst, x_comp, x_compIf, x_box, x_pop, x_popAt, x_append, x_nil, x_cons, x_seq, x_rng1, x_rng2, x_zip, x_asg, x_setix, x_aug, x_ex, x_if, x_for, x_while, x_ret, x_brk, x_cont, x_bnil, x_bcons, y_rt1, y_rtB, y_bin1, y_bin2, y_cmp1, y_cmp2, y_neg, y_isN, y_notN, y_andT, y_andF, y_orT, y_orF, y_not, y_ifT, y_ifF, y_chain1, y_chain2, y_chainT, y_chainF, y_chain3, y_cons1, y_cons2, y_call, y_callP, y_bi, y_isi, y_ix1, y_ix2, y_tup0, y_tup1, y_tup2, y_tup3, y_tup4, y_lst0, y_lst1, y_lst2, y_lst3, y_lc, y_box, y_pop, y_popAt1, y_popAt2, y_append1, y_append2, y_rtL, y_seq, y_seqT, y_seqL, y_rng21, y_zip1, y_zip2, y_zipT, y_zipL, y_rtE, y_asg, y_set1, y_set2, y_set3, y_aug, y_augA, y_augS, y_ex, y_ifST, y_ifSF, y_for, y_ret, y_nx, y_rt, y_bk, y_ct, y_fnR, y_fnN, y_nm, y_tp, y_tgn, y_tgc, y_tgk, v_add, v_sub, v_eqI, v_eqS, v_eqB, v_neI, v_neS, v_neB, v_lt, v_le, v_gt, v_ge, v_lenT, v_lenL, v_lenF, v_tupL, v_tupT, v_listL, v_listT, v_intI, v_intB, v_max, v_min, v_ixT, v_ixL, v_at0, v_at1, v_at2, y_lst4, y_lst5, y_lst6, y_lst7, y_tup5, y_tup6, y_sl1, y_sl1i, y_sl2, y_sl2i, y_sl3, v_slF, v_slL, v_slT, w_0, w_1, y_part, y_sl1v, y_sl1b, y_sl1n, y_sl2v, y_sl2b, y_sl2n, v_isTT, v_isTI, v_isTB, v_isTS, v_isIT, v_isII, v_isIB, v_isIS, v_isBT, v_isBI, v_isBB, v_isBS, v_isST, v_isSI, v_isSB, v_isSS, v_isN, x_rev, x_join, x_fmt, x_fstr, x_zipS, y_rev, y_join1, y_join2, y_fmt, y_fstr, y_rtS, y_zipS1, y_zipS2, v_revL, List.getElem?_cons_zero, List.getElem?_cons_succ, List.set_cons_zero, List.set_cons_succ, decide_true, decide_false, Int.reduceEq, Int.reduceLT, Int.reduceLE, decide_eq_true_eq, Bool.not_true, Bool.not_false, if_true, if_false, Bool.false_eq_true, b__law_thing, hc, hr]
theorem around_ok {G : List D} {n k : Nat} {x : D} (c : Nat) (hc : c ≤ 250) (hx : okN n x = true) (m : M) : ∃ r, run tab G (k + 1) 9 [x, .int c] m = some (r, m) ∧ okN (n + c) r = true ∧ sz r ≤ sz x + c := by
  rw [run__law_around, r__law_around]
  obtain ⟨env', m', hf, r, z, rfl, rfl, h1, h2⟩ := for_ok (t := .nm 2) (tb := evB (run tab G k) G l__law_around_0)
    (fun i env mm => ∃ r z, env = [some r, some (.int c), z] ∧ mm = m ∧ okN (n + i) r = true ∧ sz r ≤ sz x + i) (rangeD 0 c) [some x, some (.int c), none] m ⟨x, none, rfl, rfl, hx, by omega⟩ (by
      rintro i hi env mm ⟨r, z, rfl, rfl, h1, h2⟩
      refine ⟨_, [some (.tup [r]), some (.int c), some (rangeD 0 c)[i]], mm, y_nm, by simp -implicitDefEqProofs only [x_var, y_var, x_con, x_glob, x_bin, x_neg, x_cmp, x_chain, x_isN, x_notN, x_and, x_and1, x_or, x_or1, x_not, x_ife, x_call, x_callP, x_bi, x_isi, x_listRg, x_ix, x_sl, x_tup, x_lst, x_comp, x_compIf, x_box, x_pop, x_popAt, x_append, x_nil, x_cons, x_seq, x_rng1, x_rng2, x_zip, x_asg, x_setix, x_aug, x_ex, x_if, x_for, x_while, x_ret, x_brk, x_cont, x_bnil, x_bcons, y_rt1, y_rtB, y_bin1, y_bin2, y_cmp1, y_cmp2, y_neg, y_isN, y_notN, y_andT, y_andF, y_orT, y_orF, y_not, y_ifT, y_ifF, y_chain1, y_chain2, y_chainT, y_chainF, y_chain3, y_cons1, y_cons2, y_call, y_callP, y_bi, y_isi, y_ix1, y_ix2, y_tup0, y_tup1, y_tup2, y_tup3, y_tup4, y_lst0, y_lst1, y_lst2, y_lst3, y_lc, y_box, y_pop, y_popAt1, y_popAt2, y_append1, y_append2, y_rtL, y_seq, y_seqT, y_seqL, y_rng21, y_zip1, y_zip2, y_zipT, y_zipL, y_rtE, y_asg, y_set1, y_set2, y_set3, y_aug, y_augA, y_augS, y_ex, y_ifST, y_ifSF, y_for, y_ret, y_nx, y_rt, y_bk, y_ct, y_fnR, y_fnN, y_nm, y_tp, y_tgn, y_tgc, y_tgk, v_add, v_sub, v_eqI, v_eqS, v_eqB, v_neI, v_neS, v_neB, v_lt, v_le, v_gt, v_ge, v_lenT, v_lenL, v_lenF, v_tupL, v_tupT, v_listL, v_listT, v_intI, v_intB, v_max, v_min, v_ixT, v_ixL, v_at0, v_at1, v_at2, y_lst4, y_lst5, y_lst6, y_lst7, y_tup5, y_tup6, y_sl1, y_sl1i, y_sl2, y_sl2i, y_sl3, v_slF, v_slL, v_slT, w_0, w_1, y_part, y_sl1v, y_sl1b, y_sl1n, y_sl2v, y_sl2b, y_sl2n, v_isTT, v_isTI, v_isTB, v_isTS, v_isIT, v_isII, v_isIB, v_isIS, v_isBT, v_isBI, v_isBB, v_isBS, v_isST, v_isSI, v_isSB, v_isSS, v_isN, x_rev, x_join, x_fmt, x_fstr, x_zipS, y_rev, y_join1, y_join2, y_fmt, y_fstr, y_rtS, y_zipS1, y_zipS2, v_revL, List.getElem?_cons_zero, List.getElem?_cons_succ, List.set_cons_zero, List.set_cons_succ, decide_true, decide_false, Int.reduceEq, Int.reduceLT, Int.reduceLE, decide_eq_true_eq, Bool.not_true, Bool.not_false, if_true, if_false, Bool.false_eq_true, l__law_around_0], .tup [r], _, rfl, rfl, ?_, ?_⟩
      · exact okN_tup.mpr ⟨by simp, by simpa using h1⟩
      · simp only [sz, szs]; omega)
  rw [rangeD_len] at h1 h2
  refine ⟨r, ?_, h1, h2⟩
  have eR : ∀ m : M, kRng1 (some (.int (c : Int), m)) = some (rangeD 0 c, m) := fun m => by rw [y_rng1 (rgOk_of (by omega) (by omega)), Int.toNat_natCast]
  simp -implicitDefEqProofs only [x_var, y_var, x_con, x_glob, x_bin, x_neg, x_cmp, x_chain, x_isN, x_notN, x_and, x_and1, x_or, x_or1, x_not, x_ife, x_call, x_callP, x_bi, x_isi, x_listRg, x_ix, x_sl, x_tup, x_lst, x_comp, x_compIf, x_box, x_pop, x_popAt, x_append, x_nil, x_cons, x_seq, x_rng1, x_rng2, x_zip, x_asg, x_setix, x_aug, x_ex, x_if, x_for, x_while, x_ret, x_brk, x_cont, x_bnil, x_bcons, y_rt1, y_rtB, y_bin1, y_bin2, y_cmp1, y_cmp2, y_neg, y_isN, y_notN, y_andT, y_andF, y_orT, y_orF, y_not, y_ifT, y_ifF, y_chain1, y_chain2, y_chainT, y_chainF, y_chain3, y_cons1, y_cons2, y_call, y_callP, y_bi, y_isi, y_ix1, y_ix2, y_tup0, y_tup1, y_tup2, y_tup3, y_tup4, y_lst0, y_lst1, y_lst2, y_lst3, y_lc, y_box, y_pop, y_popAt1, y_popAt2, y_append1, y_append2, y_rtL, y_seq, y_seqT, y_seqL, y_rng21, y_zip1, y_zip2, y_zipT, y_zipL, y_rtE, y_asg, y_set1, y_set2, y_set3, y_aug, y_augA, y_augS, y_ex, y_ifST, y_ifSF, y_for, y_ret, y_nx, y_rt, y_bk, y_ct, y_fnR, y_fnN, y_nm, y_tp, y_tgn, y_tgc, y_tgk, v_add, v_sub, v_eqI, v_eqS, v_eqB, v_neI, v_neS, v_neB, v_lt, v_le, v_gt, v_ge, v_lenT, v_lenL, v_lenF, v_tupL, v_tupT, v_listL, v_listT, v_intI, v_intB, v_max, v_min, v_ixT, v_ixL, v_at0, v_at1, v_at2, y_lst4, y_lst5, y_lst6, y_lst7, y_tup5, y_tup6, y_sl1, y_sl1i, y_sl2, y_sl2i, y_sl3, v_slF, v_slL, v_slT, w_0, w_1, y_part, y_sl1v, y_sl1b, y_sl1n, y_sl2v, y_sl2b, y_sl2n, v_isTT, v_isTI, v_isTB, v_isTS, v_isIT, v_isII, v_isIB, v_isIS, v_isBT, v_isBI, v_isBB, v_isBS, v_isST, v_isSI, v_isSB, v_isSS, v_isN, x_rev, x_join, x_fmt, x_fstr, x_zipS, y_rev, y_join1, y_join2, y_fmt, y_fstr, y_rtS, y_zipS1, y_zipS2, v_revL, List.getElem?_cons_zero, List.getElem?_cons_succ, List.set_cons_zero, List.set_cons_succ, decide_true, decide_false, Int.reduceEq, Int.reduceLT, Int.reduceLE, decide_eq_true_eq, Bool.not_true, Bool.not_false, if_true, if_false, Bool.false_eq_true, b__law_around, eR, hf]
end Lw

namespace Lw
open PySem Pv
abbrev nD (k : Nat) : D := .int (k : Int)
theorem getP_snoc : ∀ {p : List Nat} {x y : D} {xs : List D} {k : Nat}, getP p x = some (.tup xs) → xs[k]? = some y → getP (p ++ [k]) x = some y
  | [], x, y, xs, k, h, hk => by
    simp only [getP, Option.some.injEq] at h
    subst h
    simp [getP, hk]
  | j :: p, .tup zs, y, xs, k, h, hk => by
    simp only [getP, List.cons_append] at h ⊢
    obtain ⟨z, h1, h2⟩ := Option.bind_eq_some_iff.mp h
    rw [h1, Option.bind_some]
    exact getP_snoc h2 hk
  | _ :: _, .non, _, _, _, h, _ | _ :: _, .bl _, _, _, _, h, _ | _ :: _, .int _, _, _, _, h, _ | _ :: _, .str _, _, _, _, h, _ | _ :: _, .lst _, _, _, _, h, _ | _ :: _, .frz _, _, _, _, h, _ | _ :: _, .ref _, _, _, _, h, _ => by simp [getP] at h
theorem getP_ok : ∀ {p : List Nat} {n : Nat} {x y : D}, okN n x = true → getP p x = some y → okN n y = true ∧ p.length ≤ n ∧ sz y ≤ sz x
  | [], n, x, y, hx, h => by
    simp only [getP, Option.some.injEq] at h
    subst h
    exact ⟨hx, Nat.zero_le _, Nat.le_refl _⟩
  | k :: p, n + 1, .tup xs, y, hx, h => by
    simp only [getP] at h
    obtain ⟨z, h1, h2⟩ := Option.bind_eq_some_iff.mp h
    have hm := List.mem_of_getElem? h1
    have q := getP_ok ((okN_tup.mp hx).2 z hm) h2
    have := sz_mem hm
    refine ⟨okN_up q.1, by simp only [List.length_cons]; omega, by simp only [sz]; omega⟩
  | _ :: _, 0, .tup _, _, hx, _ => by simp [okN] at hx
  | _ :: _, _, .non, _, _, h | _ :: _, _, .bl _, _, _, h | _ :: _, _, .int _, _, _, h | _ :: _, _, .str _, _, _, h | _ :: _, _, .lst _, _, _, h | _ :: _, _, .frz _, _, _, h | _ :: _, _, .ref _, _, _, h => by simp [getP] at h
abbrev pq (f : List Nat × D) : D := .tup [.tup (f.1.map nD), f.2]
def szq (hs : List (List Nat × D)) : Nat := (hs.map fun p => sz p.2).sum
theorem szq_app {a b : List (List Nat × D)} : szq (a ++ b) = szq a + szq b := by simp [szq]
theorem szq_len (hs : List (List Nat × D)) : hs.length ≤ szq hs := by
  induction hs with
  | nil => simp
  | cons p hs ih =>
    have := sz_pos p.2
    simp only [szq, List.map_cons, List.sum_cons, List.length_cons] at ih ⊢
    omega
def kids (p : List Nat) (xs : List D) : List (List Nat × D) := (List.range xs.length).map fun k => (p ++ [k], xs.getD k .non)
theorem kids_sz {p : List Nat} {xs : List D} : szq (kids p xs) = szs xs := by
  have e : (kids p xs).map (fun f => sz f.2) = xs.map sz := by
    unfold kids
    rw [List.map_map]
    apply List.ext_getElem
    · simp
    · intro i h1 h2
      simp only [List.length_map, List.length_range] at h1
      simp [h1]
  unfold szq
  rw [e]
  clear e
  induction xs with
  | nil => rfl
  | cons x r ih => simp only [List.map_cons, List.sum_cons, szs, ih]
theorem appR {m : M} {l : Nat} {xs : List D} {y : D} (h : m[l]? = some (.lst xs)) (hl : xs.length < lim) : appendM m y (.ref l) = some (.non, m.set l (.lst (xs ++ [y]))) := by
  simp only [appendM, h, hl, if_true]
theorem okN_path {n : Nat} {p : List Nat} (h : p.length ≤ 1000) : okN (n + 1) (.tup (p.map nD)) = true :=
  okN_tup.mpr ⟨by rw [List.length_map]; exact h, fun x hx => by obtain ⟨k, _, rfl⟩ := List.mem_map.mp hx; cases n <;> rfl⟩
theorem places_ok {G : List D} {n k : Nat} {x : D} (hx : okN n x = true) (hn : n ≤ 900) (hs : sz x < 800000) (m : M) :
    ∃ g l fs, run tab G (k + 1) 6 [x] m = some (.ref l, m ++ g) ∧ (m ++ g)[l]? = some (.lst (fs.map pq)) ∧ fs ≠ [] ∧ ∀ f ∈ fs, getP f.1 x = some f.2 := by
  rw [run__law_places, r__law_places]
  have W := while_ok (tc := evE (run tab G k) G (.cmp .ne (.var 1) (.lst .nil))) (tb := evB (run tab G k) G l__law_places_0)
    (fun j env mm => ∃ g l f hs fs a b, env = [some x, some (.ref l), some (.ref f), a, b, none] ∧ mm = m ++ g ∧ m.length ≤ l ∧ m.length ≤ f ∧ l ≠ f ∧ mm[l]? = some (.lst (hs.map pq)) ∧ mm[f]? = some (.lst (fs.map pq)) ∧ (∀ p ∈ hs, getP p.1 x = some p.2) ∧ (∀ p ∈ fs, getP p.1 x = some p.2) ∧ (hs ≠ [] ∨ fs ≠ []) ∧ j = szq hs ∧ szq hs + fs.length ≤ sz x)
    (fun r => ∃ g l f fs hh a b, r = some (.nx, [some x, some (.ref l), some (.ref f), a, b, hh], m ++ g) ∧ (m ++ g)[f]? = some (.lst (fs.map pq)) ∧ fs ≠ [] ∧ ∀ p ∈ fs, getP p.1 x = some p.2) (by
      rintro j env mm ⟨g, l, f, hs, fs, a, b, rfl, rfl, hl, hf, hlf, hm, hmf, hh, hff, hne, rfl, hz⟩
      have hp : pures (hs.map pq) = true ∧ PyData.canLayAll0 (toPs (hs.map pq)) = true := pures_okN (n := n + 2) (by
        intro d hd
        obtain ⟨p, hp, rfl⟩ := List.mem_map.mp hd
        have q := getP_ok hx (hh p hp)
        rw [okN_tup]
        refine ⟨by simp, ?_⟩
        intro z hz
        simp only [List.mem_cons, List.not_mem_nil, or_false] at hz
        rcases hz with rfl | rfl
        · exact okN_path (by omega)
        · exact okN_up q.1)
      have tc := ne_nilR hm hp
      rcases nil_or_end hs with rfl | ⟨hs', ⟨p, y⟩, rfl⟩
      · refine .inl ⟨m ++ g, by simp -implicitDefEqProofs only [x_var, y_var, x_con, x_glob, x_bin, x_neg, x_cmp, x_chain, x_isN, x_notN, x_and, x_and1, x_or, x_or1, x_not, x_ife, x_call, x_callP, x_bi, x_isi, x_listRg, x_ix, x_sl, x_tup, x_lst, x_comp, x_compIf, x_box, x_pop, x_popAt, x_append, x_nil, x_cons, x_seq, x_rng1, x_rng2, x_zip, x_asg, x_setix, x_aug, x_ex, x_if, x_for, x_while, x_ret, x_brk, x_cont, x_bnil, x_bcons, y_rt1, y_rtB, y_bin1, y_bin2, y_cmp1, y_cmp2, y_neg, y_isN, y_notN, y_andT, y_andF, y_orT, y_orF, y_not, y_ifT, y_ifF, y_chain1, y_chain2, y_chainT, y_chainF, y_chain3, y_cons1, y_cons2, y_call, y_callP, y_bi, y_isi, y_ix1, y_ix2, y_tup0, y_tup1, y_tup2, y_tup3, y_tup4, y_lst0, y_lst1, y_lst2, y_lst3, y_lc, y_box, y_pop, y_popAt1, y_popAt2, y_append1, y_append2, y_rtL, y_seq, y_seqT, y_seqL, y_rng21, y_zip1, y_zip2, y_zipT, y_zipL, y_rtE, y_asg, y_set1, y_set2, y_set3, y_aug, y_augA, y_augS, y_ex, y_ifST, y_ifSF, y_for, y_ret, y_nx, y_rt, y_bk, y_ct, y_fnR, y_fnN, y_nm, y_tp, y_tgn, y_tgc, y_tgk, v_add, v_sub, v_eqI, v_eqS, v_eqB, v_neI, v_neS, v_neB, v_lt, v_le, v_gt, v_ge, v_lenT, v_lenL, v_lenF, v_tupL, v_tupT, v_listL, v_listT, v_intI, v_intB, v_max, v_min, v_ixT, v_ixL, v_at0, v_at1, v_at2, y_lst4, y_lst5, y_lst6, y_lst7, y_tup5, y_tup6, y_sl1, y_sl1i, y_sl2, y_sl2i, y_sl3, v_slF, v_slL, v_slT, w_0, w_1, y_part, y_sl1v, y_sl1b, y_sl1n, y_sl2v, y_sl2b, y_sl2n, v_isTT, v_isTI, v_isTB, v_isTS, v_isIT, v_isII, v_isIB, v_isIS, v_isBT, v_isBI, v_isBB, v_isBS, v_isST, v_isSI, v_isSB, v_isSS, v_isN, x_rev, x_join, x_fmt, x_fstr, x_zipS, y_rev, y_join1, y_join2, y_fmt, y_fstr, y_rtS, y_zipS1, y_zipS2, v_revL, List.getElem?_cons_zero, List.getElem?_cons_succ, List.set_cons_zero, List.set_cons_succ, decide_true, decide_false, Int.reduceEq, Int.reduceLT, Int.reduceLE, decide_eq_true_eq, Bool.not_true, Bool.not_false, if_true, if_false, Bool.false_eq_true, tc, List.map_nil, List.isEmpty_nil], g, l, f, fs, none, a, b, rfl, hmf, ?_, hff⟩
        rcases hne with h | h
        · exact absurd rfl h
        · exact h
      · refine .inr (.inl ?_)
        have tc2 : evE (run tab G k) G (.cmp .ne (.var 1) (.lst .nil)) [some x, some (.ref l), some (.ref f), a, b, none] (m ++ g) = some (.bl true, m ++ g) := by
          have : ((hs' ++ [(p, y)]).map pq).isEmpty = false := by simp
          simp -implicitDefEqProofs only [x_var, y_var, x_con, x_glob, x_bin, x_neg, x_cmp, x_chain, x_isN, x_notN, x_and, x_and1, x_or, x_or1, x_not, x_ife, x_call, x_callP, x_bi, x_isi, x_listRg, x_ix, x_sl, x_tup, x_lst, x_comp, x_compIf, x_box, x_pop, x_popAt, x_append, x_nil, x_cons, x_seq, x_rng1, x_rng2, x_zip, x_asg, x_setix, x_aug, x_ex, x_if, x_for, x_while, x_ret, x_brk, x_cont, x_bnil, x_bcons, y_rt1, y_rtB, y_bin1, y_bin2, y_cmp1, y_cmp2, y_neg, y_isN, y_notN, y_andT, y_andF, y_orT, y_orF, y_not, y_ifT, y_ifF, y_chain1, y_chain2, y_chainT, y_chainF, y_chain3, y_cons1, y_cons2, y_call, y_callP, y_bi, y_isi, y_ix1, y_ix2, y_tup0, y_tup1, y_tup2, y_tup3, y_tup4, y_lst0, y_lst1, y_lst2, y_lst3, y_lc, y_box, y_pop, y_popAt1, y_popAt2, y_append1, y_append2, y_rtL, y_seq, y_seqT, y_seqL, y_rng21, y_zip1, y_zip2, y_zipT, y_zipL, y_rtE, y_asg, y_set1, y_set2, y_set3, y_aug, y_augA, y_augS, y_ex, y_ifST, y_ifSF, y_for, y_ret, y_nx, y_rt, y_bk, y_ct, y_fnR, y_fnN, y_nm, y_tp, y_tgn, y_tgc, y_tgk, v_add, v_sub, v_eqI, v_eqS, v_eqB, v_neI, v_neS, v_neB, v_lt, v_le, v_gt, v_ge, v_lenT, v_lenL, v_lenF, v_tupL, v_tupT, v_listL, v_listT, v_intI, v_intB, v_max, v_min, v_ixT, v_ixL, v_at0, v_at1, v_at2, y_lst4, y_lst5, y_lst6, y_lst7, y_tup5, y_tup6, y_sl1, y_sl1i, y_sl2, y_sl2i, y_sl3, v_slF, v_slL, v_slT, w_0, w_1, y_part, y_sl1v, y_sl1b, y_sl1n, y_sl2v, y_sl2b, y_sl2n, v_isTT, v_isTI, v_isTB, v_isTS, v_isIT, v_isII, v_isIB, v_isIS, v_isBT, v_isBI, v_isBB, v_isBS, v_isST, v_isSI, v_isSB, v_isSS, v_isN, x_rev, x_join, x_fmt, x_fstr, x_zipS, y_rev, y_join1, y_join2, y_fmt, y_fstr, y_rtS, y_zipS1, y_zipS2, v_revL, List.getElem?_cons_zero, List.getElem?_cons_succ, List.set_cons_zero, List.set_cons_succ, decide_true, decide_false, Int.reduceEq, Int.reduceLT, Int.reduceLE, decide_eq_true_eq, Bool.not_true, Bool.not_false, if_true, if_false, Bool.false_eq_true, tc, this]
        have hm' : (m ++ g)[l]? = some (.lst (hs'.map pq ++ [.tup [.tup (p.map nD), y]])) := by rw [hm, List.map_append]; rfl
        have pp := popR hm'
        rw [set_right hl] at pp
        have hml := get_set_right (v := .lst (hs'.map pq)) hl hm'
        have hmf1 : (m ++ g.set (l - m.length) (.lst (hs'.map pq)))[f]? = some (.lst (fs.map pq)) := by
          rw [← set_right hl, List.getElem?_set_ne hlf]; exact hmf
        have hz2 : szq (hs' ++ [(p, y)]) = szq hs' + sz y := by rw [szq_app]; simp [szq]
        have hpos := sz_pos y
        have hlim : (fs.map pq).length < lim := by rw [List.length_map]; simp only [lim]; omega
        have aa := appR (y := .tup [.tup (p.map nD), y]) hmf1 hlim
        rw [set_right hf] at aa
        generalize hg1 : (g.set (l - m.length) (.lst (hs'.map pq))) = g1 at *
        generalize hg2 : (g1.set (f - m.length) (.lst (fs.map pq ++ [.tup [.tup (p.map nD), y]]))) = g2 at *
        have hmf2 : (m ++ g2)[f]? = some (.lst ((fs ++ [(p, y)]).map pq)) := by
          rw [← hg2, List.map_append]
          exact get_set_right hf hmf1
        have hml2 : (m ++ g2)[l]? = some (.lst (hs'.map pq)) := by
          rw [← hg2, ← set_right hf, List.getElem?_set_ne (Ne.symm hlf)]; exact hml
        have hpy : getP p x = some y := hh (p, y) (by simp)
        have hh' : ∀ q ∈ hs', getP q.1 x = some q.2 := fun q hq => hh q (List.mem_append_left _ hq)
        have hff' : ∀ q ∈ fs ++ [(p, y)], getP q.1 x = some q.2 := by
          intro q hq
          rcases List.mem_append.mp hq with hq | hq
          · exact hff q hq
          · rw [List.mem_singleton.mp hq]; exact hpy
        have qo := getP_ok hx hpy
        have flat : (∀ xs, y ≠ .tup xs) → evB (run tab G k) G l__law_places_0 [some x, some (.ref l), some (.ref f), a, b, none] (m ++ g) = some (.nx, [some x, some (.ref l), some (.ref f), some (.tup (p.map nD)), some y, none], m ++ g2) := by
          intro hny
          cases y <;> first | (exact absurd rfl (hny _)) | (exfalso; have q := qo.1; cases n <;> simp [okN] at q <;> done) | (simp -implicitDefEqProofs only [x_var, y_var, x_con, x_glob, x_bin, x_neg, x_cmp, x_chain, x_isN, x_notN, x_and, x_and1, x_or, x_or1, x_not, x_ife, x_call, x_callP, x_bi, x_isi, x_listRg, x_ix, x_sl, x_tup, x_lst, x_comp, x_compIf, x_box, x_pop, x_popAt, x_append, x_nil, x_cons, x_seq, x_rng1, x_rng2, x_zip, x_asg, x_setix, x_aug, x_ex, x_if, x_for, x_while, x_ret, x_brk, x_cont, x_bnil, x_bcons, y_rt1, y_rtB, y_bin1, y_bin2, y_cmp1, y_cmp2, y_neg, y_isN, y_notN, y_andT, y_andF, y_orT, y_orF, y_not, y_ifT, y_ifF, y_chain1, y_chain2, y_chainT, y_chainF, y_chain3, y_cons1, y_cons2, y_call, y_callP, y_bi, y_isi, y_ix1, y_ix2, y_tup0, y_tup1, y_tup2, y_tup3, y_tup4, y_lst0, y_lst1, y_lst2, y_lst3, y_lc, y_box, y_pop, y_popAt1, y_popAt2, y_append1, y_append2, y_rtL, y_seq, y_seqT, y_seqL, y_rng21, y_zip1, y_zip2, y_zipT, y_zipL, y_rtE, y_asg, y_set1, y_set2, y_set3, y_aug, y_augA, y_augS, y_ex, y_ifST, y_ifSF, y_for, y_ret, y_nx, y_rt, y_bk, y_ct, y_fnR, y_fnN, y_nm, y_tp, y_tgn, y_tgc, y_tgk, v_add, v_sub, v_eqI, v_eqS, v_eqB, v_neI, v_neS, v_neB, v_lt, v_le, v_gt, v_ge, v_lenT, v_lenL, v_lenF, v_tupL, v_tupT, v_listL, v_listT, v_intI, v_intB, v_max, v_min, v_ixT, v_ixL, v_at0, v_at1, v_at2, y_lst4, y_lst5, y_lst6, y_lst7, y_tup5, y_tup6, y_sl1, y_sl1i, y_sl2, y_sl2i, y_sl3, v_slF, v_slL, v_slT, w_0, w_1, y_part, y_sl1v, y_sl1b, y_sl1n, y_sl2v, y_sl2b, y_sl2n, v_isTT, v_isTI, v_isTB, v_isTS, v_isIT, v_isII, v_isIB, v_isIS, v_isBT, v_isBI, v_isBB, v_isBS, v_isST, v_isSI, v_isSB, v_isSS, v_isN, x_rev, x_join, x_fmt, x_fstr, x_zipS, y_rev, y_join1, y_join2, y_fmt, y_fstr, y_rtS, y_zipS1, y_zipS2, v_revL, List.getElem?_cons_zero, List.getElem?_cons_succ, List.set_cons_zero, List.set_cons_succ, decide_true, decide_false, Int.reduceEq, Int.reduceLT, Int.reduceLE, decide_eq_true_eq, Bool.not_true, Bool.not_false, if_true, if_false, Bool.false_eq_true, l__law_places_0, pp, aa])
        by_cases hy : ∃ xs, y = .tup xs
        · obtain ⟨xs, rfl⟩ := hy
          cases n with
          | zero => exact absurd qo.1 (by simp [okN])
          | succ n =>
          have h1 := okN_tup.mp qo.1
          have hlr : (rangeD 0 xs.length).length ≤ lim := by rw [rangeD_len]; exact lim10 (by omega)
          have cat : ∀ (k : Nat) (m : M), bopD m .add (.tup (p.map nD)) (.tup [nD k]) = some (.tup ((p ++ [k]).map nD)) := by
            intro k m
            rw [v_catT (show (p.map nD).length + [nD k].length ≤ lim from lim10 (by simp; omega)), List.map_append]
            rfl
          have cm : compL (.nm 5) [some x, some (.ref l), some (.ref f), some (.tup (p.map nD)), some (.tup xs), none] (evE (run tab G k) G (.tup (.cons (.bin .add (.var 3) (.tup (.cons (.var 5) .nil))) (.cons (.ix (.var 4) (.var 5)) .nil)))) (rangeD 0 xs.length) (m ++ g2) = some ((kids p xs).map pq, m ++ g2) := by
            have e0 : (kids p xs).map pq = (rangeD 0 xs.length).map (fun d => match d with | .int i => D.tup [.tup ((p ++ [i.toNat]).map nD), xs.getD i.toNat .non] | _ => .non) := by
              simp only [kids, rangeD, List.map_map]
              apply List.map_congr_left
              intro i _
              simp [pq]
            rw [e0, Pv.comp_map]
            intro d hd
            obtain ⟨i, hi, rfl⟩ : ∃ i : Nat, i < xs.length ∧ d = .int i := by
              simp only [rangeD] at hd
              obtain ⟨i, hi, rfl⟩ := List.mem_map.mp hd
              exact ⟨i, List.mem_range.mp hi, by simp⟩
            refine ⟨_, y_nm, ?_⟩
            have e1 : atD xs (i : Int) = some xs[i] := atD_nat (by simp [hi])
            simp -implicitDefEqProofs only [x_var, y_var, x_con, x_glob, x_bin, x_neg, x_cmp, x_chain, x_isN, x_notN, x_and, x_and1, x_or, x_or1, x_not, x_ife, x_call, x_callP, x_bi, x_isi, x_listRg, x_ix, x_sl, x_tup, x_lst, x_comp, x_compIf, x_box, x_pop, x_popAt, x_append, x_nil, x_cons, x_seq, x_rng1, x_rng2, x_zip, x_asg, x_setix, x_aug, x_ex, x_if, x_for, x_while, x_ret, x_brk, x_cont, x_bnil, x_bcons, y_rt1, y_rtB, y_bin1, y_bin2, y_cmp1, y_cmp2, y_neg, y_isN, y_notN, y_andT, y_andF, y_orT, y_orF, y_not, y_ifT, y_ifF, y_chain1, y_chain2, y_chainT, y_chainF, y_chain3, y_cons1, y_cons2, y_call, y_callP, y_bi, y_isi, y_ix1, y_ix2, y_tup0, y_tup1, y_tup2, y_tup3, y_tup4, y_lst0, y_lst1, y_lst2, y_lst3, y_lc, y_box, y_pop, y_popAt1, y_popAt2, y_append1, y_append2, y_rtL, y_seq, y_seqT, y_seqL, y_rng21, y_zip1, y_zip2, y_zipT, y_zipL, y_rtE, y_asg, y_set1, y_set2, y_set3, y_aug, y_augA, y_augS, y_ex, y_ifST, y_ifSF, y_for, y_ret, y_nx, y_rt, y_bk, y_ct, y_fnR, y_fnN, y_nm, y_tp, y_tgn, y_tgc, y_tgk, v_add, v_sub, v_eqI, v_eqS, v_eqB, v_neI, v_neS, v_neB, v_lt, v_le, v_gt, v_ge, v_lenT, v_lenL, v_lenF, v_tupL, v_tupT, v_listL, v_listT, v_intI, v_intB, v_max, v_min, v_ixT, v_ixL, v_at0, v_at1, v_at2, y_lst4, y_lst5, y_lst6, y_lst7, y_tup5, y_tup6, y_sl1, y_sl1i, y_sl2, y_sl2i, y_sl3, v_slF, v_slL, v_slT, w_0, w_1, y_part, y_sl1v, y_sl1b, y_sl1n, y_sl2v, y_sl2b, y_sl2n, v_isTT, v_isTI, v_isTB, v_isTS, v_isIT, v_isII, v_isIB, v_isIS, v_isBT, v_isBI, v_isBB, v_isBS, v_isST, v_isSI, v_isSB, v_isSS, v_isN, x_rev, x_join, x_fmt, x_fstr, x_zipS, y_rev, y_join1, y_join2, y_fmt, y_fstr, y_rtS, y_zipS1, y_zipS2, v_revL, List.getElem?_cons_zero, List.getElem?_cons_succ, List.set_cons_zero, List.set_cons_succ, decide_true, decide_false, Int.reduceEq, Int.reduceLT, Int.reduceLE, decide_eq_true_eq, Bool.not_true, Bool.not_false, if_true, if_false, Bool.false_eq_true, cat, e1, Int.toNat_natCast]
            simp [hi]
          have hkl : (kids p xs).length = xs.length := by simp [kids]
          have hsz : sz (.tup xs) = 1 + szs xs := by simp [sz]
          have hzl : (hs'.map pq).length + ((kids p xs).map pq).length ≤ lim := by
            have a := szq_len hs'
            simp only [List.length_map, hkl, lim]
            omega
          have eR : ∀ m : M, kRng1 (some (.int (xs.length : Int), m)) = some (rangeD 0 xs.length, m) := fun m => by rw [y_rng1 (rgOk_of (by omega) (by omega)), Int.toNat_natCast]
          have hfl : f < (m ++ g2).length := by
            rcases Nat.lt_or_ge f (m ++ g2).length with q | q
            · exact q
            · rw [List.getElem?_eq_none q] at hmf2; cases hmf2
          refine ⟨m ++ g, [some x, some (.ref (m ++ g2).length), some (.ref f), some (.tup (p.map nD)), some (.tup xs), none], (m ++ g2) ++ [.lst (hs'.map pq ++ (kids p xs).map pq)], tc2, ?_, szq (hs' ++ kids p xs), ?_, g2 ++ [.lst (hs'.map pq ++ (kids p xs).map pq)], (m ++ g2).length, f, hs' ++ kids p xs, fs ++ [(p, .tup xs)], some (.tup (p.map nD)), some (.tup xs), rfl, by rw [List.append_assoc], by simp, hf, by omega, ?_, ?_, ?_, hff', .inr (by simp), rfl, ?_⟩
          · simp -implicitDefEqProofs only [x_var, y_var, x_con, x_glob, x_bin, x_neg, x_cmp, x_chain, x_isN, x_notN, x_and, x_and1, x_or, x_or1, x_not, x_ife, x_call, x_callP, x_bi, x_isi, x_listRg, x_ix, x_sl, x_tup, x_lst, x_comp, x_compIf, x_box, x_pop, x_popAt, x_append, x_nil, x_cons, x_seq, x_rng1, x_rng2, x_zip, x_asg, x_setix, x_aug, x_ex, x_if, x_for, x_while, x_ret, x_brk, x_cont, x_bnil, x_bcons, y_rt1, y_rtB, y_bin1, y_bin2, y_cmp1, y_cmp2, y_neg, y_isN, y_notN, y_andT, y_andF, y_orT, y_orF, y_not, y_ifT, y_ifF, y_chain1, y_chain2, y_chainT, y_chainF, y_chain3, y_cons1, y_cons2, y_call, y_callP, y_bi, y_isi, y_ix1, y_ix2, y_tup0, y_tup1, y_tup2, y_tup3, y_tup4, y_lst0, y_lst1, y_lst2, y_lst3, y_lc, y_box, y_pop, y_popAt1, y_popAt2, y_append1, y_append2, y_rtL, y_seq, y_seqT, y_seqL, y_rng21, y_zip1, y_zip2, y_zipT, y_zipL, y_rtE, y_asg, y_set1, y_set2, y_set3, y_aug, y_augA, y_augS, y_ex, y_ifST, y_ifSF, y_for, y_ret, y_nx, y_rt, y_bk, y_ct, y_fnR, y_fnN, y_nm, y_tp, y_tgn, y_tgc, y_tgk, v_add, v_sub, v_eqI, v_eqS, v_eqB, v_neI, v_neS, v_neB, v_lt, v_le, v_gt, v_ge, v_lenT, v_lenL, v_lenF, v_tupL, v_tupT, v_listL, v_listT, v_intI, v_intB, v_max, v_min, v_ixT, v_ixL, v_at0, v_at1, v_at2, y_lst4, y_lst5, y_lst6, y_lst7, y_tup5, y_tup6, y_sl1, y_sl1i, y_sl2, y_sl2i, y_sl3, v_slF, v_slL, v_slT, w_0, w_1, y_part, y_sl1v, y_sl1b, y_sl1n, y_sl2v, y_sl2b, y_sl2n, v_isTT, v_isTI, v_isTB, v_isTS, v_isIT, v_isII, v_isIB, v_isIS, v_isBT, v_isBI, v_isBB, v_isBS, v_isST, v_isSI, v_isSB, v_isSS, v_isN, x_rev, x_join, x_fmt, x_fstr, x_zipS, y_rev, y_join1, y_join2, y_fmt, y_fstr, y_rtS, y_zipS1, y_zipS2, v_revL, List.getElem?_cons_zero, List.getElem?_cons_succ, List.set_cons_zero, List.set_cons_succ, decide_true, decide_false, Int.reduceEq, Int.reduceLT, Int.reduceLE, decide_eq_true_eq, Bool.not_true, Bool.not_false, if_true, if_false, Bool.false_eq_true, l__law_places_0, pp, aa, eR, y_comp hlr, cm, catR hml2 hzl]
          · rw [szq_app, kids_sz]
            omega
          · rw [List.getElem?_append_right (Nat.le_refl _), Nat.sub_self, List.map_append]; rfl
          · rw [List.getElem?_append_left hfl]; exact hmf2
          · intro q hq
            rcases List.mem_append.mp hq with hq | hq
            · exact hh' q hq
            · unfold kids at hq
              obtain ⟨i, hi, rfl⟩ := List.mem_map.mp hq
              have hi := List.mem_range.mp hi
              exact getP_snoc hpy (by simp [hi])
          · rw [szq_app, kids_sz, List.length_append]
            simp only [List.length_singleton]
            omega
        · refine ⟨m ++ g, _, _, tc2, flat (fun xs e => hy ⟨xs, e⟩), szq hs', by omega, g2, l, f, hs', fs ++ [(p, y)], _, _, rfl, rfl, hl, hf, hlf, hml2, hmf2, hh', hff', .inr (by simp), rfl, ?_⟩
          rw [List.length_append]
          simp only [List.length_singleton]
          omega)
    (szq [([], x)]) turns [some x, some (.ref m.length), some (.ref (m.length + 1)), none, none, none] (m ++ [.lst [.tup [.tup [], x]], .lst []]) ⟨[.lst [.tup [.tup [], x]], .lst []], m.length, m.length + 1, [([], x)], [], none, none, rfl, rfl, Nat.le_refl _, by omega, by omega, by simp [pq], by simp, by simp [getP], by simp, .inl (by simp), rfl, by simp [szq]⟩ (by simp only [szq, List.map_cons, List.map_nil, List.sum_cons, List.sum_nil, turns]; omega)
  obtain ⟨g, l, f, fs, hh, a, b, h, h1, h2, h3⟩ := W
  refine ⟨g, f, fs, ?_, h1, h2, h3⟩
  have el : (m ++ [MO.lst [.tup [.tup [], x]]]).length = m.length + 1 := by simp
  have ea : (m ++ [MO.lst [.tup [.tup [], x]]]) ++ [MO.lst []] = m ++ [MO.lst [.tup [.tup [], x]], MO.lst []] := by rw [List.append_assoc]; rfl
  simp -implicitDefEqProofs only [x_var, y_var, x_con, x_glob, x_bin, x_neg, x_cmp, x_chain, x_isN, x_notN, x_and, x_and1, x_or, x_or1, x_not, x_ife, x_call, x_callP, x_bi, x_isi, x_listRg, x_ix, x_sl, x_tup, x_lst, x_comp, x_compIf, x_box, x_pop, x_popAt, x_append, x_nil, x_cons, x_seq, x_rng1, x_rng2, x_zip, x_asg, x_setix, x_aug, x_ex, x_if, x_for, x_while, x_ret, x_brk, x_cont, x_bnil, x_bcons, y_rt1, y_rtB, y_bin1, y_bin2, y_cmp1, y_cmp2, y_neg, y_isN, y_notN, y_andT, y_andF, y_orT, y_orF, y_not, y_ifT, y_ifF, y_chain1, y_chain2, y_chainT, y_chainF, y_chain3, y_cons1, y_cons2, y_call, y_callP, y_bi, y_isi, y_ix1, y_ix2, y_tup0, y_tup1, y_tup2, y_tup3, y_tup4, y_lst0, y_lst1, y_lst2, y_lst3, y_lc, y_box, y_pop, y_popAt1, y_popAt2, y_append1, y_append2, y_rtL, y_seq, y_seqT, y_seqL, y_rng21, y_zip1, y_zip2, y_zipT, y_zipL, y_rtE, y_asg, y_set1, y_set2, y_set3, y_aug, y_augA, y_augS, y_ex, y_ifST, y_ifSF, y_for, y_ret, y_nx, y_rt, y_bk, y_ct, y_fnR, y_fnN, y_nm, y_tp, y_tgn, y_tgc, y_tgk, v_add, v_sub, v_eqI, v_eqS, v_eqB, v_neI, v_neS, v_neB, v_lt, v_le, v_gt, v_ge, v_lenT, v_lenL, v_lenF, v_tupL, v_tupT, v_listL, v_listT, v_intI, v_intB, v_max, v_min, v_ixT, v_ixL, v_at0, v_at1, v_at2, y_lst4, y_lst5, y_lst6, y_lst7, y_tup5, y_tup6, y_sl1, y_sl1i, y_sl2, y_sl2i, y_sl3, v_slF, v_slL, v_slT, w_0, w_1, y_part, y_sl1v, y_sl1b, y_sl1n, y_sl2v, y_sl2b, y_sl2n, v_isTT, v_isTI, v_isTB, v_isTS, v_isIT, v_isII, v_isIB, v_isIS, v_isBT, v_isBI, v_isBB, v_isBS, v_isST, v_isSI, v_isSB, v_isSS, v_isN, x_rev, x_join, x_fmt, x_fstr, x_zipS, y_rev, y_join1, y_join2, y_fmt, y_fstr, y_rtS, y_zipS1, y_zipS2, v_revL, List.getElem?_cons_zero, List.getElem?_cons_succ, List.set_cons_zero, List.set_cons_succ, decide_true, decide_false, Int.reduceEq, Int.reduceLT, Int.reduceLE, decide_eq_true_eq, Bool.not_true, Bool.not_false, if_true, if_false, Bool.false_eq_true, b__law_places, el, ea, x_while, h]
end Lw

namespace Lw
open PySem Pv
theorem cut_take {xs : List D} {k : Nat} (h : k < xs.length) : cutD xs none (some (k : Int)) = xs.take k := by
  unfold cutD sIx
  have : ¬ ((k : Int) < 0) := by omega
  simp only [this, if_false, Int.toNat_natCast, Nat.min_eq_left (Nat.le_of_lt h), List.drop_zero, Nat.sub_zero]
theorem cut_drop {xs : List D} {k : Nat} (h : k < xs.length) : cutD xs (some ((k : Int) + 1)) none = xs.drop (k + 1) := by
  unfold cutD sIx
  have : ¬ ((k : Int) + 1 < 0) := by omega
  have e : ((k : Int) + 1).toNat = k + 1 := by omega
  simp only [this, if_false, e, Nat.min_eq_left (Nat.succ_le_of_lt h)]
  rw [List.take_of_length_le (by rw [List.length_drop]; omega)]
theorem szs_cut {xs : List D} {k : Nat} (h : k < xs.length) : szs xs = szs (xs.take k) + sz xs[k] + szs (xs.drop (k + 1)) := by
  have e : xs = xs.take k ++ xs[k] :: xs.drop (k + 1) := by
    rw [List.getElem_cons_drop, List.take_append_drop]
  have e2 := congrArg szs e
  rw [szs_app] at e2
  simp only [szs] at e2
  omega
theorem set_ok {G : List D} {e : Nat} {v : D} (hv : okN e v = true) {m : M} : ∀ (p : List Nat) (n0 d : Nat) (x y : D), okN d x = true → d ≤ 900 → getP p x = some y →
    ∃ r, run tab G (n0 + p.length + 1) 7 [x, .tup (p.map nD), v] m = some (r, m) ∧ okN (d + e) r = true ∧ sz r ≤ sz x + sz v := by
  intro p
  induction p with
  | nil =>
    intro n0 d x y hx hd h
    refine ⟨v, ?_, okN_le hv (by omega), by omega⟩
    rw [run__law_set, r__law_set]
    simp -implicitDefEqProofs only [x_var, y_var, x_con, x_glob, x_bin, x_neg, x_cmp, x_chain, x_isN, x_notN, x_and, x_and1, x_or, x_or1, x_not, x_ife, x_call, x_callP, x_bi, x_isi, x_listRg, x_ix, x_sl, x_tup, x_lst, x_comp, x_compIf, x_box, x_pop, x_popAt, x_append, x_nil, x_cons, x_seq, x_rng1, x_rng2, x_zip, x_asg, x_setix, x_aug, x_ex, x_if, x_for, x_while, x_ret, x_brk, x_cont, x_bnil, x_bcons, y_rt1, y_rtB, y_bin1, y_bin2, y_cmp1, y_cmp2, y_neg, y_isN, y_notN, y_andT, y_andF, y_orT, y_orF, y_not, y_ifT, y_ifF, y_chain1, y_chain2, y_chainT, y_chainF, y_chain3, y_cons1, y_cons2, y_call, y_callP, y_bi, y_isi, y_ix1, y_ix2, y_tup0, y_tup1, y_tup2, y_tup3, y_tup4, y_lst0, y_lst1, y_lst2, y_lst3, y_lc, y_box, y_pop, y_popAt1, y_popAt2, y_append1, y_append2, y_rtL, y_seq, y_seqT, y_seqL, y_rng21, y_zip1, y_zip2, y_zipT, y_zipL, y_rtE, y_asg, y_set1, y_set2, y_set3, y_aug, y_augA, y_augS, y_ex, y_ifST, y_ifSF, y_for, y_ret, y_nx, y_rt, y_bk, y_ct, y_fnR, y_fnN, y_nm, y_tp, y_tgn, y_tgc, y_tgk, v_add, v_sub, v_eqI, v_eqS, v_eqB, v_neI, v_neS, v_neB, v_lt, v_le, v_gt, v_ge, v_lenT, v_lenL, v_lenF, v_tupL, v_tupT, v_listL, v_listT, v_intI, v_intB, v_max, v_min, v_ixT, v_ixL, v_at0, v_at1, v_at2, y_lst4, y_lst5, y_lst6, y_lst7, y_tup5, y_tup6, y_sl1, y_sl1i, y_sl2, y_sl2i, y_sl3, v_slF, v_slL, v_slT, w_0, w_1, y_part, y_sl1v, y_sl1b, y_sl1n, y_sl2v, y_sl2b, y_sl2n, v_isTT, v_isTI, v_isTB, v_isTS, v_isIT, v_isII, v_isIB, v_isIS, v_isBT, v_isBI, v_isBB, v_isBS, v_isST, v_isSI, v_isSB, v_isSS, v_isN, x_rev, x_join, x_fmt, x_fstr, x_zipS, y_rev, y_join1, y_join2, y_fmt, y_fstr, y_rtS, y_zipS1, y_zipS2, v_revL, List.getElem?_cons_zero, List.getElem?_cons_succ, List.set_cons_zero, List.set_cons_succ, decide_true, decide_false, Int.reduceEq, Int.reduceLT, Int.reduceLE, decide_eq_true_eq, Bool.not_true, Bool.not_false, if_true, if_false, Bool.false_eq_true, b__law_set, List.map_nil, eq_nilT (show okN 1 (.tup []) = true from rfl), List.isEmpty_nil]
  | cons k p ih =>
    intro n0 d x y hx hd h
    have qo := getP_ok hx h
    cases x <;> first | (simp [getP] at h; done) | skip
    case tup xs =>
      cases d with
      | zero => simp [okN] at hx
      | succ d =>
      have hx' := okN_tup.mp hx
      simp only [getP] at h
      obtain ⟨z, h1, h2⟩ := Option.bind_eq_some_iff.mp h
      have hk : k < xs.length := (List.getElem?_eq_some_iff.mp h1).1
      have hz : xs[k] = z := (List.getElem?_eq_some_iff.mp h1).2
      have hm := List.mem_of_getElem? h1
      obtain ⟨r, er, hr, zr⟩ := ih n0 d z y (hx'.2 z hm) (by omega) h2
      have hp : ((k :: p).map nD).isEmpty = false := rfl
      have okp := okN_path (n := 0) (p := k :: p) (by simp only [List.length_cons] at qo ⊢; omega)
      have ex : atD xs (k : Int) = some z := atD_nat h1
      have c1 : cutD ((k :: p).map nD) (some 1) none = p.map nD := by simp [cutD, sIx]; exact List.take_of_length_le (by simp)
      have a1 : (xs.take k).length ≤ 1000 := by rw [List.length_take]; omega
      have a2 : (xs.take k ++ [r] ++ xs.drop (k + 1)).length = xs.length := by simp; omega
      refine ⟨.tup (xs.take k ++ [r] ++ xs.drop (k + 1)), ?_, ?_, ?_⟩
      · rw [show n0 + (k :: p).length + 1 = (n0 + p.length + 1) + 1 by simp only [List.length_cons]; omega, run__law_set, r__law_set]
        have ep : (k :: p).map nD = nD k :: p.map nD := rfl
        rw [ep] at hp okp c1
        simp -implicitDefEqProofs only [x_var, y_var, x_con, x_glob, x_bin, x_neg, x_cmp, x_chain, x_isN, x_notN, x_and, x_and1, x_or, x_or1, x_not, x_ife, x_call, x_callP, x_bi, x_isi, x_listRg, x_ix, x_sl, x_tup, x_lst, x_comp, x_compIf, x_box, x_pop, x_popAt, x_append, x_nil, x_cons, x_seq, x_rng1, x_rng2, x_zip, x_asg, x_setix, x_aug, x_ex, x_if, x_for, x_while, x_ret, x_brk, x_cont, x_bnil, x_bcons, y_rt1, y_rtB, y_bin1, y_bin2, y_cmp1, y_cmp2, y_neg, y_isN, y_notN, y_andT, y_andF, y_orT, y_orF, y_not, y_ifT, y_ifF, y_chain1, y_chain2, y_chainT, y_chainF, y_chain3, y_cons1, y_cons2, y_call, y_callP, y_bi, y_isi, y_ix1, y_ix2, y_tup0, y_tup1, y_tup2, y_tup3, y_tup4, y_lst0, y_lst1, y_lst2, y_lst3, y_lc, y_box, y_pop, y_popAt1, y_popAt2, y_append1, y_append2, y_rtL, y_seq, y_seqT, y_seqL, y_rng21, y_zip1, y_zip2, y_zipT, y_zipL, y_rtE, y_asg, y_set1, y_set2, y_set3, y_aug, y_augA, y_augS, y_ex, y_ifST, y_ifSF, y_for, y_ret, y_nx, y_rt, y_bk, y_ct, y_fnR, y_fnN, y_nm, y_tp, y_tgn, y_tgc, y_tgk, v_add, v_sub, v_eqI, v_eqS, v_eqB, v_neI, v_neS, v_neB, v_lt, v_le, v_gt, v_ge, v_lenT, v_lenL, v_lenF, v_tupL, v_tupT, v_listL, v_listT, v_intI, v_intB, v_max, v_min, v_ixT, v_ixL, v_at0, v_at1, v_at2, y_lst4, y_lst5, y_lst6, y_lst7, y_tup5, y_tup6, y_sl1, y_sl1i, y_sl2, y_sl2i, y_sl3, v_slF, v_slL, v_slT, w_0, w_1, y_part, y_sl1v, y_sl1b, y_sl1n, y_sl2v, y_sl2b, y_sl2n, v_isTT, v_isTI, v_isTB, v_isTS, v_isIT, v_isII, v_isIB, v_isIS, v_isBT, v_isBI, v_isBB, v_isBS, v_isST, v_isSI, v_isSB, v_isSS, v_isN, x_rev, x_join, x_fmt, x_fstr, x_zipS, y_rev, y_join1, y_join2, y_fmt, y_fstr, y_rtS, y_zipS1, y_zipS2, v_revL, List.getElem?_cons_zero, List.getElem?_cons_succ, List.set_cons_zero, List.set_cons_succ, decide_true, decide_false, Int.reduceEq, Int.reduceLT, Int.reduceLE, decide_eq_true_eq, Bool.not_true, Bool.not_false, if_true, if_false, Bool.false_eq_true, b__law_set, ep, eq_nilT okp, hp, cut_take hk, ex, c1, er, y_pure (okN_pure hr).1, cut_drop hk, v_catT (show (xs.take k).length + [r].length ≤ lim from lim10 (by simp only [List.length_singleton]; omega)), v_catT (show (xs.take k ++ [r]).length + (xs.drop (k + 1)).length ≤ lim from lim10 (by rw [← List.length_append, a2]; omega))]
      · rw [show d + 1 + e = (d + e) + 1 by omega]
        refine okN_tup.mpr ⟨by omega, ?_⟩
        intro w hw
        rcases List.mem_append.mp hw with hw | hw
        · rcases List.mem_append.mp hw with hw | hw
          · exact okN_le (hx'.2 w (List.mem_of_mem_take hw)) (by omega)
          · rw [List.mem_singleton.mp hw]; exact hr
        · exact okN_le (hx'.2 w (List.mem_of_mem_drop hw)) (by omega)
      · have := szs_cut hk
        rw [hz] at this
        simp only [sz, szs_app, szs]
        omega
theorem strOk_sub {z : Str} (h : PyData.strOk z = true) {l : List Nat} (hl : ∀ c ∈ l, c ∈ z.cps.toList) : PyData.strOk ⟨l.toArray⟩ = true := by
  unfold PyData.strOk at *
  rw [Array.all_eq_true_iff_forall_mem] at h ⊢
  intro c hc
  exact h c (Array.mem_toList_iff.mp (hl c (by simpa using hc)))
theorem beside_ok {G : List D} {n k : Nat} {x : D} (hx : okN n x = true) (hn : n ≤ 100) (hz : ∀ xs, x = .tup xs → xs.length ≤ 900) (s : Dk) (h : s.Ok) (hk : s.k + 30 < 2 ^ 40) (g : M) :
    ∃ r s', run tab G (k + 3) 8 [.ref 1, x] (mem s g) = some (r, mem s' g) ∧ okN (n + 1) r = true ∧ sz r ≤ sz x + 1 ∧ s'.k ≤ s.k + 30 ∧ s'.Ok := by
  obtain ⟨w, s1, e1, p1, q1, k1, o1⟩ := pick_run (G := G) (n := k + 1) s h (by omega) 5 (by decide) (by decide) g
  have hsx := sz_pos x
  rw [run__law_beside, r__law_beside]
  by_cases w0 : w = 0
  · subst w0
    refine ⟨.tup [x], s1, ?_, okN_tup.mpr ⟨by simp, by simpa using hx⟩, by simp only [sz, szs]; omega, by omega, o1⟩
    simp -implicitDefEqProofs only [x_var, y_var, x_con, x_glob, x_bin, x_neg, x_cmp, x_chain, x_isN, x_notN, x_and, x_and1, x_or, x_or1, x_not, x_ife, x_call, x_callP, x_bi, x_isi, x_listRg, x_ix, x_sl, x_tup, x_lst, x_comp, x_compIf, x_box, x_pop, x_popAt, x_append, x_nil, x_cons, x_seq, x_rng1, x_rng2, x_zip, x_asg, x_setix, x_aug, x_ex, x_if, x_for, x_while, x_ret, x_brk, x_cont, x_bnil, x_bcons, y_rt1, y_rtB, y_bin1, y_bin2, y_cmp1, y_cmp2, y_neg, y_isN, y_notN, y_andT, y_andF, y_orT, y_orF, y_not, y_ifT, y_ifF, y_chain1, y_chain2, y_chainT, y_chainF, y_chain3, y_cons1, y_cons2, y_call, y_callP, y_bi, y_isi, y_ix1, y_ix2, y_tup0, y_tup1, y_tup2, y_tup3, y_tup4, y_lst0, y_lst1, y_lst2, y_lst3, y_lc, y_box, y_pop, y_popAt1, y_popAt2, y_append1, y_append2, y_rtL, y_seq, y_seqT, y_seqL, y_rng21, y_zip1, y_zip2, y_zipT, y_zipL, y_rtE, y_asg, y_set1, y_set2, y_set3, y_aug, y_augA, y_augS, y_ex, y_ifST, y_ifSF, y_for, y_ret, y_nx, y_rt, y_bk, y_ct, y_fnR, y_fnN, y_nm, y_tp, y_tgn, y_tgc, y_tgk, v_add, v_sub, v_eqI, v_eqS, v_eqB, v_neI, v_neS, v_neB, v_lt, v_le, v_gt, v_ge, v_lenT, v_lenL, v_lenF, v_tupL, v_tupT, v_listL, v_listT, v_intI, v_intB, v_max, v_min, v_ixT, v_ixL, v_at0, v_at1, v_at2, y_lst4, y_lst5, y_lst6, y_lst7, y_tup5, y_tup6, y_sl1, y_sl1i, y_sl2, y_sl2i, y_sl3, v_slF, v_slL, v_slT, w_0, w_1, y_part, y_sl1v, y_sl1b, y_sl1n, y_sl2v, y_sl2b, y_sl2n, v_isTT, v_isTI, v_isTB, v_isTS, v_isIT, v_isII, v_isIB, v_isIS, v_isBT, v_isBI, v_isBB, v_isBS, v_isST, v_isSI, v_isSB, v_isSS, v_isN, x_rev, x_join, x_fmt, x_fstr, x_zipS, y_rev, y_join1, y_join2, y_fmt, y_fstr, y_rtS, y_zipS1, y_zipS2, v_revL, List.getElem?_cons_zero, List.getElem?_cons_succ, List.set_cons_zero, List.set_cons_succ, decide_true, decide_false, Int.reduceEq, Int.reduceLT, Int.reduceLE, decide_eq_true_eq, Bool.not_true, Bool.not_false, if_true, if_false, Bool.false_eq_true, b__law_beside, e1]
  have wi : ((w - 1 : Int)) < 4 ∧ 0 ≤ w - 1 := by omega
  cases x
  case tup xs =>
    have hz := hz xs rfl
    cases n with
    | zero => simp [okN] at hx
    | succ n =>
    have hx' := okN_tup.mp hx
    obtain ⟨r, s2, e2, o2, k2, ok2⟩ := simple_ok (G := G) (n := k) s1 o1 (by omega) g
    have cat : ∀ m : M, bopD m .add (.tup xs) (.tup [r]) = some (.tup (xs ++ [r])) := fun m => v_catT (show xs.length + [r].length ≤ lim from lim10 (by simp; omega))
    have fin : okN (n + 1 + 1) (.tup (xs ++ [r])) = true ∧ sz (.tup (xs ++ [r])) ≤ sz (.tup xs) + 1 ∧ s2.k ≤ s.k + 30 ∧ s2.Ok := by
      refine ⟨okN_tup.mpr ⟨by simp; omega, ?_⟩, ?_, by omega, ok2⟩
      · intro y hy
        rcases List.mem_append.mp hy with hy | hy
        · exact okN_up (hx'.2 y hy)
        · rw [List.mem_singleton.mp hy]; exact okN_flat o2
      · have := sz_flat o2
        simp only [sz, szs_app, szs]
        omega
    by_cases w1 : w = 1
    · by_cases l1 : xs.length = 1
      · match xs, l1, hx', hx with
        | [y], _, hx', hx =>
        subst w1
        refine ⟨y, s1, ?_, okN_le (hx'.2 y (by simp)) (by omega), by simp only [sz, szs]; omega, by omega, o1⟩
        have e : ((([y] : List D).length : Nat) : Int) = 1 := rfl
        simp -implicitDefEqProofs only [x_var, y_var, x_con, x_glob, x_bin, x_neg, x_cmp, x_chain, x_isN, x_notN, x_and, x_and1, x_or, x_or1, x_not, x_ife, x_call, x_callP, x_bi, x_isi, x_listRg, x_ix, x_sl, x_tup, x_lst, x_comp, x_compIf, x_box, x_pop, x_popAt, x_append, x_nil, x_cons, x_seq, x_rng1, x_rng2, x_zip, x_asg, x_setix, x_aug, x_ex, x_if, x_for, x_while, x_ret, x_brk, x_cont, x_bnil, x_bcons, y_rt1, y_rtB, y_bin1, y_bin2, y_cmp1, y_cmp2, y_neg, y_isN, y_notN, y_andT, y_andF, y_orT, y_orF, y_not, y_ifT, y_ifF, y_chain1, y_chain2, y_chainT, y_chainF, y_chain3, y_cons1, y_cons2, y_call, y_callP, y_bi, y_isi, y_ix1, y_ix2, y_tup0, y_tup1, y_tup2, y_tup3, y_tup4, y_lst0, y_lst1, y_lst2, y_lst3, y_lc, y_box, y_pop, y_popAt1, y_popAt2, y_append1, y_append2, y_rtL, y_seq, y_seqT, y_seqL, y_rng21, y_zip1, y_zip2, y_zipT, y_zipL, y_rtE, y_asg, y_set1, y_set2, y_set3, y_aug, y_augA, y_augS, y_ex, y_ifST, y_ifSF, y_for, y_ret, y_nx, y_rt, y_bk, y_ct, y_fnR, y_fnN, y_nm, y_tp, y_tgn, y_tgc, y_tgk, v_add, v_sub, v_eqI, v_eqS, v_eqB, v_neI, v_neS, v_neB, v_lt, v_le, v_gt, v_ge, v_lenT, v_lenL, v_lenF, v_tupL, v_tupT, v_listL, v_listT, v_intI, v_intB, v_max, v_min, v_ixT, v_ixL, v_at0, v_at1, v_at2, y_lst4, y_lst5, y_lst6, y_lst7, y_tup5, y_tup6, y_sl1, y_sl1i, y_sl2, y_sl2i, y_sl3, v_slF, v_slL, v_slT, w_0, w_1, y_part, y_sl1v, y_sl1b, y_sl1n, y_sl2v, y_sl2b, y_sl2n, v_isTT, v_isTI, v_isTB, v_isTS, v_isIT, v_isII, v_isIB, v_isIS, v_isBT, v_isBI, v_isBB, v_isBS, v_isST, v_isSI, v_isSB, v_isSS, v_isN, x_rev, x_join, x_fmt, x_fstr, x_zipS, y_rev, y_join1, y_join2, y_fmt, y_fstr, y_rtS, y_zipS1, y_zipS2, v_revL, List.getElem?_cons_zero, List.getElem?_cons_succ, List.set_cons_zero, List.set_cons_succ, decide_true, decide_false, Int.reduceEq, Int.reduceLT, Int.reduceLE, decide_eq_true_eq, Bool.not_true, Bool.not_false, if_true, if_false, Bool.false_eq_true, b__law_beside, e1, e]
      · refine ⟨.tup (xs ++ [r]), s2, ?_, fin⟩
        have e : ((xs.length : Int) = 1) = False := by simp only [eq_iff_iff, iff_false]; omega
        subst w1
        simp -implicitDefEqProofs only [x_var, y_var, x_con, x_glob, x_bin, x_neg, x_cmp, x_chain, x_isN, x_notN, x_and, x_and1, x_or, x_or1, x_not, x_ife, x_call, x_callP, x_bi, x_isi, x_listRg, x_ix, x_sl, x_tup, x_lst, x_comp, x_compIf, x_box, x_pop, x_popAt, x_append, x_nil, x_cons, x_seq, x_rng1, x_rng2, x_zip, x_asg, x_setix, x_aug, x_ex, x_if, x_for, x_while, x_ret, x_brk, x_cont, x_bnil, x_bcons, y_rt1, y_rtB, y_bin1, y_bin2, y_cmp1, y_cmp2, y_neg, y_isN, y_notN, y_andT, y_andF, y_orT, y_orF, y_not, y_ifT, y_ifF, y_chain1, y_chain2, y_chainT, y_chainF, y_chain3, y_cons1, y_cons2, y_call, y_callP, y_bi, y_isi, y_ix1, y_ix2, y_tup0, y_tup1, y_tup2, y_tup3, y_tup4, y_lst0, y_lst1, y_lst2, y_lst3, y_lc, y_box, y_pop, y_popAt1, y_popAt2, y_append1, y_append2, y_rtL, y_seq, y_seqT, y_seqL, y_rng21, y_zip1, y_zip2, y_zipT, y_zipL, y_rtE, y_asg, y_set1, y_set2, y_set3, y_aug, y_augA, y_augS, y_ex, y_ifST, y_ifSF, y_for, y_ret, y_nx, y_rt, y_bk, y_ct, y_fnR, y_fnN, y_nm, y_tp, y_tgn, y_tgc, y_tgk, v_add, v_sub, v_eqI, v_eqS, v_eqB, v_neI, v_neS, v_neB, v_lt, v_le, v_gt, v_ge, v_lenT, v_lenL, v_lenF, v_tupL, v_tupT, v_listL, v_listT, v_intI, v_intB, v_max, v_min, v_ixT, v_ixL, v_at0, v_at1, v_at2, y_lst4, y_lst5, y_lst6, y_lst7, y_tup5, y_tup6, y_sl1, y_sl1i, y_sl2, y_sl2i, y_sl3, v_slF, v_slL, v_slT, w_0, w_1, y_part, y_sl1v, y_sl1b, y_sl1n, y_sl2v, y_sl2b, y_sl2n, v_isTT, v_isTI, v_isTB, v_isTS, v_isIT, v_isII, v_isIB, v_isIS, v_isBT, v_isBI, v_isBB, v_isBS, v_isST, v_isSI, v_isSB, v_isSS, v_isN, x_rev, x_join, x_fmt, x_fstr, x_zipS, y_rev, y_join1, y_join2, y_fmt, y_fstr, y_rtS, y_zipS1, y_zipS2, v_revL, List.getElem?_cons_zero, List.getElem?_cons_succ, List.set_cons_zero, List.set_cons_succ, decide_true, decide_false, Int.reduceEq, Int.reduceLT, Int.reduceLE, decide_eq_true_eq, Bool.not_true, Bool.not_false, if_true, if_false, Bool.false_eq_true, b__law_beside, e1, e, e2, cat]
    · refine ⟨.tup (xs ++ [r]), s2, ?_, fin⟩
      simp -implicitDefEqProofs only [x_var, y_var, x_con, x_glob, x_bin, x_neg, x_cmp, x_chain, x_isN, x_notN, x_and, x_and1, x_or, x_or1, x_not, x_ife, x_call, x_callP, x_bi, x_isi, x_listRg, x_ix, x_sl, x_tup, x_lst, x_comp, x_compIf, x_box, x_pop, x_popAt, x_append, x_nil, x_cons, x_seq, x_rng1, x_rng2, x_zip, x_asg, x_setix, x_aug, x_ex, x_if, x_for, x_while, x_ret, x_brk, x_cont, x_bnil, x_bcons, y_rt1, y_rtB, y_bin1, y_bin2, y_cmp1, y_cmp2, y_neg, y_isN, y_notN, y_andT, y_andF, y_orT, y_orF, y_not, y_ifT, y_ifF, y_chain1, y_chain2, y_chainT, y_chainF, y_chain3, y_cons1, y_cons2, y_call, y_callP, y_bi, y_isi, y_ix1, y_ix2, y_tup0, y_tup1, y_tup2, y_tup3, y_tup4, y_lst0, y_lst1, y_lst2, y_lst3, y_lc, y_box, y_pop, y_popAt1, y_popAt2, y_append1, y_append2, y_rtL, y_seq, y_seqT, y_seqL, y_rng21, y_zip1, y_zip2, y_zipT, y_zipL, y_rtE, y_asg, y_set1, y_set2, y_set3, y_aug, y_augA, y_augS, y_ex, y_ifST, y_ifSF, y_for, y_ret, y_nx, y_rt, y_bk, y_ct, y_fnR, y_fnN, y_nm, y_tp, y_tgn, y_tgc, y_tgk, v_add, v_sub, v_eqI, v_eqS, v_eqB, v_neI, v_neS, v_neB, v_lt, v_le, v_gt, v_ge, v_lenT, v_lenL, v_lenF, v_tupL, v_tupT, v_listL, v_listT, v_intI, v_intB, v_max, v_min, v_ixT, v_ixL, v_at0, v_at1, v_at2, y_lst4, y_lst5, y_lst6, y_lst7, y_tup5, y_tup6, y_sl1, y_sl1i, y_sl2, y_sl2i, y_sl3, v_slF, v_slL, v_slT, w_0, w_1, y_part, y_sl1v, y_sl1b, y_sl1n, y_sl2v, y_sl2b, y_sl2n, v_isTT, v_isTI, v_isTB, v_isTS, v_isIT, v_isII, v_isIB, v_isIS, v_isBT, v_isBI, v_isBB, v_isBS, v_isST, v_isSI, v_isSB, v_isSS, v_isN, x_rev, x_join, x_fmt, x_fstr, x_zipS, y_rev, y_join1, y_join2, y_fmt, y_fstr, y_rtS, y_zipS1, y_zipS2, v_revL, List.getElem?_cons_zero, List.getElem?_cons_succ, List.set_cons_zero, List.set_cons_succ, decide_true, decide_false, Int.reduceEq, Int.reduceLT, Int.reduceLE, decide_eq_true_eq, Bool.not_true, Bool.not_false, if_true, if_false, Bool.false_eq_true, b__law_beside, e1, w0, w1, e2, cat]
  case bl b =>
    obtain ⟨r, er, hr⟩ := at_any (P := fun y => okN (n + 1) y = true ∧ sz y = 1) (l := [.int (if b = true then 1 else 0), .bl (!b)]) (by
      intro y hy
      simp only [List.mem_cons, List.not_mem_nil, or_false] at hy
      rcases hy with rfl | rfl <;> exact ⟨rfl, rfl⟩) (d := w % 2) (Int.emod_nonneg _ (by decide)) (Int.emod_lt_of_pos _ (by decide))
    refine ⟨r, s1, ?_, hr.1, by omega, by omega, o1⟩
    simp -implicitDefEqProofs only [x_var, y_var, x_con, x_glob, x_bin, x_neg, x_cmp, x_chain, x_isN, x_notN, x_and, x_and1, x_or, x_or1, x_not, x_ife, x_call, x_callP, x_bi, x_isi, x_listRg, x_ix, x_sl, x_tup, x_lst, x_comp, x_compIf, x_box, x_pop, x_popAt, x_append, x_nil, x_cons, x_seq, x_rng1, x_rng2, x_zip, x_asg, x_setix, x_aug, x_ex, x_if, x_for, x_while, x_ret, x_brk, x_cont, x_bnil, x_bcons, y_rt1, y_rtB, y_bin1, y_bin2, y_cmp1, y_cmp2, y_neg, y_isN, y_notN, y_andT, y_andF, y_orT, y_orF, y_not, y_ifT, y_ifF, y_chain1, y_chain2, y_chainT, y_chainF, y_chain3, y_cons1, y_cons2, y_call, y_callP, y_bi, y_isi, y_ix1, y_ix2, y_tup0, y_tup1, y_tup2, y_tup3, y_tup4, y_lst0, y_lst1, y_lst2, y_lst3, y_lc, y_box, y_pop, y_popAt1, y_popAt2, y_append1, y_append2, y_rtL, y_seq, y_seqT, y_seqL, y_rng21, y_zip1, y_zip2, y_zipT, y_zipL, y_rtE, y_asg, y_set1, y_set2, y_set3, y_aug, y_augA, y_augS, y_ex, y_ifST, y_ifSF, y_for, y_ret, y_nx, y_rt, y_bk, y_ct, y_fnR, y_fnN, y_nm, y_tp, y_tgn, y_tgc, y_tgk, v_add, v_sub, v_eqI, v_eqS, v_eqB, v_neI, v_neS, v_neB, v_lt, v_le, v_gt, v_ge, v_lenT, v_lenL, v_lenF, v_tupL, v_tupT, v_listL, v_listT, v_intI, v_intB, v_max, v_min, v_ixT, v_ixL, v_at0, v_at1, v_at2, y_lst4, y_lst5, y_lst6, y_lst7, y_tup5, y_tup6, y_sl1, y_sl1i, y_sl2, y_sl2i, y_sl3, v_slF, v_slL, v_slT, w_0, w_1, y_part, y_sl1v, y_sl1b, y_sl1n, y_sl2v, y_sl2b, y_sl2n, v_isTT, v_isTI, v_isTB, v_isTS, v_isIT, v_isII, v_isIB, v_isIS, v_isBT, v_isBI, v_isBB, v_isBS, v_isST, v_isSI, v_isSB, v_isSS, v_isN, x_rev, x_join, x_fmt, x_fstr, x_zipS, y_rev, y_join1, y_join2, y_fmt, y_fstr, y_rtS, y_zipS1, y_zipS2, v_revL, List.getElem?_cons_zero, List.getElem?_cons_succ, List.set_cons_zero, List.set_cons_succ, decide_true, decide_false, Int.reduceEq, Int.reduceLT, Int.reduceLE, decide_eq_true_eq, Bool.not_true, Bool.not_false, if_true, if_false, Bool.false_eq_true, b__law_beside, e1, w0, v_mod (show (0 : Int) < 2 by decide), er]
  case int i =>
    obtain ⟨r, er, hr⟩ := at_any (P := fun y => okN (n + 1) y = true ∧ sz y = 1) (l := [.int (i + 1), .bl (decide (i = 1)), .int (-i), .int 0]) (by
      intro y hy
      simp only [List.mem_cons, List.not_mem_nil, or_false] at hy
      rcases hy with rfl | rfl | rfl | rfl <;> exact ⟨rfl, rfl⟩) (d := w - 1) wi.2 wi.1
    refine ⟨r, s1, ?_, hr.1, by omega, by omega, o1⟩
    simp -implicitDefEqProofs only [x_var, y_var, x_con, x_glob, x_bin, x_neg, x_cmp, x_chain, x_isN, x_notN, x_and, x_and1, x_or, x_or1, x_not, x_ife, x_call, x_callP, x_bi, x_isi, x_listRg, x_ix, x_sl, x_tup, x_lst, x_comp, x_compIf, x_box, x_pop, x_popAt, x_append, x_nil, x_cons, x_seq, x_rng1, x_rng2, x_zip, x_asg, x_setix, x_aug, x_ex, x_if, x_for, x_while, x_ret, x_brk, x_cont, x_bnil, x_bcons, y_rt1, y_rtB, y_bin1, y_bin2, y_cmp1, y_cmp2, y_neg, y_isN, y_notN, y_andT, y_andF, y_orT, y_orF, y_not, y_ifT, y_ifF, y_chain1, y_chain2, y_chainT, y_chainF, y_chain3, y_cons1, y_cons2, y_call, y_callP, y_bi, y_isi, y_ix1, y_ix2, y_tup0, y_tup1, y_tup2, y_tup3, y_tup4, y_lst0, y_lst1, y_lst2, y_lst3, y_lc, y_box, y_pop, y_popAt1, y_popAt2, y_append1, y_append2, y_rtL, y_seq, y_seqT, y_seqL, y_rng21, y_zip1, y_zip2, y_zipT, y_zipL, y_rtE, y_asg, y_set1, y_set2, y_set3, y_aug, y_augA, y_augS, y_ex, y_ifST, y_ifSF, y_for, y_ret, y_nx, y_rt, y_bk, y_ct, y_fnR, y_fnN, y_nm, y_tp, y_tgn, y_tgc, y_tgk, v_add, v_sub, v_eqI, v_eqS, v_eqB, v_neI, v_neS, v_neB, v_lt, v_le, v_gt, v_ge, v_lenT, v_lenL, v_lenF, v_tupL, v_tupT, v_listL, v_listT, v_intI, v_intB, v_max, v_min, v_ixT, v_ixL, v_at0, v_at1, v_at2, y_lst4, y_lst5, y_lst6, y_lst7, y_tup5, y_tup6, y_sl1, y_sl1i, y_sl2, y_sl2i, y_sl3, v_slF, v_slL, v_slT, w_0, w_1, y_part, y_sl1v, y_sl1b, y_sl1n, y_sl2v, y_sl2b, y_sl2n, v_isTT, v_isTI, v_isTB, v_isTS, v_isIT, v_isII, v_isIB, v_isIS, v_isBT, v_isBI, v_isBB, v_isBS, v_isST, v_isSI, v_isSB, v_isSS, v_isN, x_rev, x_join, x_fmt, x_fstr, x_zipS, y_rev, y_join1, y_join2, y_fmt, y_fstr, y_rtS, y_zipS1, y_zipS2, v_revL, List.getElem?_cons_zero, List.getElem?_cons_succ, List.set_cons_zero, List.set_cons_succ, decide_true, decide_false, Int.reduceEq, Int.reduceLT, Int.reduceLE, decide_eq_true_eq, Bool.not_true, Bool.not_false, if_true, if_false, Bool.false_eq_true, b__law_beside, e1, w0, er]
  case str z =>
    have hx' : PyData.strOk z = true ∧ z.length ≤ 1000 + n := by cases n <;> simpa [okN] using hx
    have ha : PyData.strOk "a" = true ∧ (Str.ofString "a").length = 1 := by decide +kernel
    have zl : z.length ≤ lim := lim10 (by omega)
    have okS : ∀ t : Str, PyData.strOk t = true → t.length ≤ 1000 + (n + 1) → okN (n + 1) (.str t) = true ∧ sz (.str t) = 1 := by
      intro t h1 h2
      refine ⟨?_, rfl⟩
      rw [okN, Bool.and_eq_true, decide_eq_true_eq]
      exact ⟨h1, h2⟩
    have zt : z.cps.toList.length = z.length := by simp [Str.length]
    obtain ⟨r, er, hr⟩ := at_any (P := fun y => okN (n + 1) y = true ∧ sz y = 1) (l := [.str (z ++ "a"), .str (cutT z none (some (-1))), .str (revT z), .non]) (by
      intro y hy
      simp only [List.mem_cons, List.not_mem_nil, or_false] at hy
      rcases hy with rfl | rfl | rfl | rfl
      · refine okS _ (strOk_cat hx'.1 ha.1) ?_
        have : (z ++ "a").length = z.length + (Str.ofString "a").length := by
          show (z.cps ++ (Str.ofString "a").cps).size = z.cps.size + (Str.ofString "a").cps.size
          exact Array.size_append ..
        rw [this, ha.2]; omega
      · refine okS _ (strOk_sub hx'.1 fun c hc => List.mem_of_mem_drop (List.mem_of_mem_take hc)) ?_
        show (List.toArray _).size ≤ _
        rw [List.size_toArray, List.length_take, List.length_drop]
        omega
      · refine okS _ (strOk_sub hx'.1 fun c hc => List.mem_reverse.mp hc) ?_
        show (List.toArray _).size ≤ _
        rw [List.size_toArray, List.length_reverse, zt]
        omega
      · exact ⟨rfl, rfl⟩) (d := w - 1) wi.2 wi.1
    refine ⟨r, s1, ?_, hr.1, by omega, by omega, o1⟩
    simp -implicitDefEqProofs only [x_var, y_var, x_con, x_glob, x_bin, x_neg, x_cmp, x_chain, x_isN, x_notN, x_and, x_and1, x_or, x_or1, x_not, x_ife, x_call, x_callP, x_bi, x_isi, x_listRg, x_ix, x_sl, x_tup, x_lst, x_comp, x_compIf, x_box, x_pop, x_popAt, x_append, x_nil, x_cons, x_seq, x_rng1, x_rng2, x_zip, x_asg, x_setix, x_aug, x_ex, x_if, x_for, x_while, x_ret, x_brk, x_cont, x_bnil, x_bcons, y_rt1, y_rtB, y_bin1, y_bin2, y_cmp1, y_cmp2, y_neg, y_isN, y_notN, y_andT, y_andF, y_orT, y_orF, y_not, y_ifT, y_ifF, y_chain1, y_chain2, y_chainT, y_chainF, y_chain3, y_cons1, y_cons2, y_call, y_callP, y_bi, y_isi, y_ix1, y_ix2, y_tup0, y_tup1, y_tup2, y_tup3, y_tup4, y_lst0, y_lst1, y_lst2, y_lst3, y_lc, y_box, y_pop, y_popAt1, y_popAt2, y_append1, y_append2, y_rtL, y_seq, y_seqT, y_seqL, y_rng21, y_zip1, y_zip2, y_zipT, y_zipL, y_rtE, y_asg, y_set1, y_set2, y_set3, y_aug, y_augA, y_augS, y_ex, y_ifST, y_ifSF, y_for, y_ret, y_nx, y_rt, y_bk, y_ct, y_fnR, y_fnN, y_nm, y_tp, y_tgn, y_tgc, y_tgk, v_add, v_sub, v_eqI, v_eqS, v_eqB, v_neI, v_neS, v_neB, v_lt, v_le, v_gt, v_ge, v_lenT, v_lenL, v_lenF, v_tupL, v_tupT, v_listL, v_listT, v_intI, v_intB, v_max, v_min, v_ixT, v_ixL, v_at0, v_at1, v_at2, y_lst4, y_lst5, y_lst6, y_lst7, y_tup5, y_tup6, y_sl1, y_sl1i, y_sl2, y_sl2i, y_sl3, v_slF, v_slL, v_slT, w_0, w_1, y_part, y_sl1v, y_sl1b, y_sl1n, y_sl2v, y_sl2b, y_sl2n, v_isTT, v_isTI, v_isTB, v_isTS, v_isIT, v_isII, v_isIB, v_isIS, v_isBT, v_isBI, v_isBB, v_isBS, v_isST, v_isSI, v_isSB, v_isSS, v_isN, x_rev, x_join, x_fmt, x_fstr, x_zipS, y_rev, y_join1, y_join2, y_fmt, y_fstr, y_rtS, y_zipS1, y_zipS2, v_revL, List.getElem?_cons_zero, List.getElem?_cons_succ, List.set_cons_zero, List.set_cons_succ, decide_true, decide_false, Int.reduceEq, Int.reduceLT, Int.reduceLE, decide_eq_true_eq, Bool.not_true, Bool.not_false, if_true, if_false, Bool.false_eq_true, b__law_beside, e1, w0, v_catS (show z.length + (Str.ofString "a").length ≤ lim from lim10 (by rw [ha.2]; omega)), v_slS zl, v_revS zl, er]
  case non =>
    have h0 : PyData.strOk "" = true ∧ (Str.ofString "").length = 0 := by decide +kernel
    obtain ⟨r, er, hr⟩ := at_any (P := fun y => okN (n + 1) y = true ∧ sz y = 1) (l := [.tup [], .bl false, .int 0, .str ""]) (by
      intro y hy
      simp only [List.mem_cons, List.not_mem_nil, or_false] at hy
      rcases hy with rfl | rfl | rfl | rfl
      · exact ⟨rfl, rfl⟩
      · exact ⟨rfl, rfl⟩
      · exact ⟨rfl, rfl⟩
      · refine ⟨?_, rfl⟩
        rw [okN, Bool.and_eq_true, decide_eq_true_eq]
        exact ⟨h0.1, by rw [h0.2]; omega⟩) (d := w - 1) wi.2 wi.1
    refine ⟨r, s1, ?_, hr.1, by omega, by omega, o1⟩
    simp -implicitDefEqProofs only [x_var, y_var, x_con, x_glob, x_bin, x_neg, x_cmp, x_chain, x_isN, x_notN, x_and, x_and1, x_or, x_or1, x_not, x_ife, x_call, x_callP, x_bi, x_isi, x_listRg, x_ix, x_sl, x_tup, x_lst, x_comp, x_compIf, x_box, x_pop, x_popAt, x_append, x_nil, x_cons, x_seq, x_rng1, x_rng2, x_zip, x_asg, x_setix, x_aug, x_ex, x_if, x_for, x_while, x_ret, x_brk, x_cont, x_bnil, x_bcons, y_rt1, y_rtB, y_bin1, y_bin2, y_cmp1, y_cmp2, y_neg, y_isN, y_notN, y_andT, y_andF, y_orT, y_orF, y_not, y_ifT, y_ifF, y_chain1, y_chain2, y_chainT, y_chainF, y_chain3, y_cons1, y_cons2, y_call, y_callP, y_bi, y_isi, y_ix1, y_ix2, y_tup0, y_tup1, y_tup2, y_tup3, y_tup4, y_lst0, y_lst1, y_lst2, y_lst3, y_lc, y_box, y_pop, y_popAt1, y_popAt2, y_append1, y_append2, y_rtL, y_seq, y_seqT, y_seqL, y_rng21, y_zip1, y_zip2, y_zipT, y_zipL, y_rtE, y_asg, y_set1, y_set2, y_set3, y_aug, y_augA, y_augS, y_ex, y_ifST, y_ifSF, y_for, y_ret, y_nx, y_rt, y_bk, y_ct, y_fnR, y_fnN, y_nm, y_tp, y_tgn, y_tgc, y_tgk, v_add, v_sub, v_eqI, v_eqS, v_eqB, v_neI, v_neS, v_neB, v_lt, v_le, v_gt, v_ge, v_lenT, v_lenL, v_lenF, v_tupL, v_tupT, v_listL, v_listT, v_intI, v_intB, v_max, v_min, v_ixT, v_ixL, v_at0, v_at1, v_at2, y_lst4, y_lst5, y_lst6, y_lst7, y_tup5, y_tup6, y_sl1, y_sl1i, y_sl2, y_sl2i, y_sl3, v_slF, v_slL, v_slT, w_0, w_1, y_part, y_sl1v, y_sl1b, y_sl1n, y_sl2v, y_sl2b, y_sl2n, v_isTT, v_isTI, v_isTB, v_isTS, v_isIT, v_isII, v_isIB, v_isIS, v_isBT, v_isBI, v_isBB, v_isBS, v_isST, v_isSI, v_isSB, v_isSS, v_isN, x_rev, x_join, x_fmt, x_fstr, x_zipS, y_rev, y_join1, y_join2, y_fmt, y_fstr, y_rtS, y_zipS1, y_zipS2, v_revL, List.getElem?_cons_zero, List.getElem?_cons_succ, List.set_cons_zero, List.set_cons_succ, decide_true, decide_false, Int.reduceEq, Int.reduceLT, Int.reduceLE, decide_eq_true_eq, Bool.not_true, Bool.not_false, if_true, if_false, Bool.false_eq_true, b__law_beside, e1, w0, er]
  all_goals (exfalso; cases n <;> simp [okN] at hx <;> done)
end Lw

namespace Lw
open PySem Pv
abbrev GG : List D := glo.map (·.2)
theorem step_ex {F : Fn} {G : List D} {st : S} {rest : Ss} {env : Pv.Env} {m : M} {r : D} (P : Pv.Env → M → Prop) (h : ∃ e m1, evS F G st env m = some (.nx, e, m1) ∧ P e m1) (k : ∀ e m1, P e m1 → ∃ m', kFn (evB F G rest e m1) = some (r, m')) : ∃ m', kFn (evB F G (.cons st rest) env m) = some (r, m') := by
  obtain ⟨e, m1, h1, h2⟩ := h
  obtain ⟨m', h3⟩ := k e m1 h2
  refine ⟨m', ?_⟩
  rw [x_bcons, h1]
  exact h3
theorem forC {t : Tg} {tb : Pv.Env → M → Pv.R} {d : D} {ds : List D} {env e e2 : Pv.Env} {m m2 : M} (h : bindTg m t d env = some e) (h2 : tb e m = some (.nx, e2, m2)) : forL t tb (d :: ds) env m = forL t tb ds e2 m2 := by
  rw [forL, h, Option.bind_some, h2, Option.bind_some]
theorem main : ∀ ns : List Int, ns.length ≤ 63 → ∃ m', run tab (glo.map (·.2)) 290 11 [.frz (ns.map .int)] [] = some (.bl true, m') := by
  intro ns hns
  show ∃ m', run tab GG 290 11 [.frz (ns.map .int)] [] = some (.bl true, m')
  obtain ⟨s0, e0, o0, k0⟩ := draws_ok (run tab GG 288) GG ns hns
  have e0' : run tab GG 289 1 [.frz (ns.map .int)] [] = some (.ref 1, mem s0 []) := by rw [run__law_deck]; exact e0
  obtain ⟨ch, s1, e1, p1, q1, k1, o1⟩ := pick_run (G := GG) (n := 288) s0 o0 (by omega) 4 (by decide) (by decide) []
  obtain ⟨wh, s2, e2, p2, q2, k2, o2⟩ := pick_run (G := GG) (n := 288) s1 o1 (by omega) 1000 (by decide) (by decide) []
  obtain ⟨ar, s3, e3, p3, q3, k3, o3⟩ := pick_run (G := GG) (n := 288) s2 o2 (by omega) 8 (by decide) (by decide) []
  obtain ⟨c, hc, ec⟩ : ∃ c : Nat, c ≤ 250 ∧ ∀ m : M, bopD m .mul (.int 250) (.int (if ar = 0 then 1 else 0)) = some (.int (c : Int)) := by
    by_cases h : ar = 0
    · refine ⟨250, by decide, fun m => ?_⟩
      rw [if_pos h, v_mul (mulOk_l (i := 250) (j := 1) (by decide) (by decide))]; rfl
    · refine ⟨0, by decide, fun m => ?_⟩
      rw [if_neg h, v_mul (mulOk_l (i := 250) (j := 0) (by decide) (by decide))]; rfl
  have hT8 : T 8 < 2 ^ 30 := by decide
  have hS8 : Sz 8 = 87381 := by decide
  obtain ⟨x, s4, e4, ox, zx, k4, o4, smx⟩ := thing_ok (G := GG) (n0 := 278) (g := []) 8 8 40 s3 (by decide) (by decide) (by decide) o3 (by omega)
  have e4' : run tab GG 289 5 [.ref 1, .int 8, .int 40] (mem s3 []) = some (x, mem s4 []) := e4
  obtain ⟨y, s5, e5, oy, zy, k5, o5, smy⟩ := thing_ok (G := GG) (n0 := 278) (g := []) 8 8 40 s4 (by decide) (by decide) (by decide) o4 (by omega)
  have e5' : run tab GG 289 5 [.ref 1, .int 8, .int 40] (mem s4 []) = some (y, mem s5 []) := e5
  rw [run_law, r_law]
  unfold b_law
  refine step_ex (fun e m => e = [some (.frz (ns.map .int)), some (.ref 1), none, none, none, none, none, none, none, none, none, none, none, none, none] ∧ m = mem s0 []) ⟨_, _, by simp -implicitDefEqProofs only [x_var, y_var, x_con, x_glob, x_bin, x_neg, x_cmp, x_chain, x_isN, x_notN, x_and, x_and1, x_or, x_or1, x_not, x_ife, x_call, x_callP, x_bi, x_isi, x_listRg, x_ix, x_sl, x_tup, x_lst, x_comp, x_compIf, x_box, x_pop, x_popAt, x_append, x_nil, x_cons, x_seq, x_rng1, x_rng2, x_zip, x_asg, x_setix, x_aug, x_ex, x_if, x_for, x_while, x_ret, x_brk, x_cont, x_bnil, x_bcons, y_rt1, y_rtB, y_bin1, y_bin2, y_cmp1, y_cmp2, y_neg, y_isN, y_notN, y_andT, y_andF, y_orT, y_orF, y_not, y_ifT, y_ifF, y_chain1, y_chain2, y_chainT, y_chainF, y_chain3, y_cons1, y_cons2, y_call, y_callP, y_bi, y_isi, y_ix1, y_ix2, y_tup0, y_tup1, y_tup2, y_tup3, y_tup4, y_lst0, y_lst1, y_lst2, y_lst3, y_lc, y_box, y_pop, y_popAt1, y_popAt2, y_append1, y_append2, y_rtL, y_seq, y_seqT, y_seqL, y_rng21, y_zip1, y_zip2, y_zipT, y_zipL, y_rtE, y_asg, y_set1, y_set2, y_set3, y_aug, y_augA, y_augS, y_ex, y_ifST, y_ifSF, y_for, y_ret, y_nx, y_rt, y_bk, y_ct, y_fnR, y_fnN, y_nm, y_tp, y_tgn, y_tgc, y_tgk, v_add, v_sub, v_eqI, v_eqS, v_eqB, v_neI, v_neS, v_neB, v_lt, v_le, v_gt, v_ge, v_lenT, v_lenL, v_lenF, v_tupL, v_tupT, v_listL, v_listT, v_intI, v_intB, v_max, v_min, v_ixT, v_ixL, v_at0, v_at1, v_at2, y_lst4, y_lst5, y_lst6, y_lst7, y_tup5, y_tup6, y_sl1, y_sl1i, y_sl2, y_sl2i, y_sl3, v_slF, v_slL, v_slT, w_0, w_1, y_part, y_sl1v, y_sl1b, y_sl1n, y_sl2v, y_sl2b, y_sl2n, v_isTT, v_isTI, v_isTB, v_isTS, v_isIT, v_isII, v_isIB, v_isIS, v_isBT, v_isBI, v_isBB, v_isBS, v_isST, v_isSI, v_isSB, v_isSS, v_isN, x_rev, x_join, x_fmt, x_fstr, x_zipS, y_rev, y_join1, y_join2, y_fmt, y_fstr, y_rtS, y_zipS1, y_zipS2, v_revL, List.getElem?_cons_zero, List.getElem?_cons_succ, List.set_cons_zero, List.set_cons_succ, decide_true, decide_false, Int.reduceEq, Int.reduceLT, Int.reduceLE, decide_eq_true_eq, Bool.not_true, Bool.not_false, if_true, if_false, Bool.false_eq_true, e0'], rfl, rfl⟩ ?_
  rintro _ _ ⟨rfl, rfl⟩
  refine step_ex (fun e m => e = [some (.frz (ns.map .int)), some (.ref 1), some (.int ch), none, none, none, none, none, none, none, none, none, none, none, none] ∧ m = mem s1 []) ⟨_, _, by simp -implicitDefEqProofs only [x_var, y_var, x_con, x_glob, x_bin, x_neg, x_cmp, x_chain, x_isN, x_notN, x_and, x_and1, x_or, x_or1, x_not, x_ife, x_call, x_callP, x_bi, x_isi, x_listRg, x_ix, x_sl, x_tup, x_lst, x_comp, x_compIf, x_box, x_pop, x_popAt, x_append, x_nil, x_cons, x_seq, x_rng1, x_rng2, x_zip, x_asg, x_setix, x_aug, x_ex, x_if, x_for, x_while, x_ret, x_brk, x_cont, x_bnil, x_bcons, y_rt1, y_rtB, y_bin1, y_bin2, y_cmp1, y_cmp2, y_neg, y_isN, y_notN, y_andT, y_andF, y_orT, y_orF, y_not, y_ifT, y_ifF, y_chain1, y_chain2, y_chainT, y_chainF, y_chain3, y_cons1, y_cons2, y_call, y_callP, y_bi, y_isi, y_ix1, y_ix2, y_tup0, y_tup1, y_tup2, y_tup3, y_tup4, y_lst0, y_lst1, y_lst2, y_lst3, y_lc, y_box, y_pop, y_popAt1, y_popAt2, y_append1, y_append2, y_rtL, y_seq, y_seqT, y_seqL, y_rng21, y_zip1, y_zip2, y_zipT, y_zipL, y_rtE, y_asg, y_set1, y_set2, y_set3, y_aug, y_augA, y_augS, y_ex, y_ifST, y_ifSF, y_for, y_ret, y_nx, y_rt, y_bk, y_ct, y_fnR, y_fnN, y_nm, y_tp, y_tgn, y_tgc, y_tgk, v_add, v_sub, v_eqI, v_eqS, v_eqB, v_neI, v_neS, v_neB, v_lt, v_le, v_gt, v_ge, v_lenT, v_lenL, v_lenF, v_tupL, v_tupT, v_listL, v_listT, v_intI, v_intB, v_max, v_min, v_ixT, v_ixL, v_at0, v_at1, v_at2, y_lst4, y_lst5, y_lst6, y_lst7, y_tup5, y_tup6, y_sl1, y_sl1i, y_sl2, y_sl2i, y_sl3, v_slF, v_slL, v_slT, w_0, w_1, y_part, y_sl1v, y_sl1b, y_sl1n, y_sl2v, y_sl2b, y_sl2n, v_isTT, v_isTI, v_isTB, v_isTS, v_isIT, v_isII, v_isIB, v_isIS, v_isBT, v_isBI, v_isBB, v_isBS, v_isST, v_isSI, v_isSB, v_isSS, v_isN, x_rev, x_join, x_fmt, x_fstr, x_zipS, y_rev, y_join1, y_join2, y_fmt, y_fstr, y_rtS, y_zipS1, y_zipS2, v_revL, List.getElem?_cons_zero, List.getElem?_cons_succ, List.set_cons_zero, List.set_cons_succ, decide_true, decide_false, Int.reduceEq, Int.reduceLT, Int.reduceLE, decide_eq_true_eq, Bool.not_true, Bool.not_false, if_true, if_false, Bool.false_eq_true, e1], rfl, rfl⟩ ?_
  rintro _ _ ⟨rfl, rfl⟩
  refine step_ex (fun e m => e = [some (.frz (ns.map .int)), some (.ref 1), some (.int ch), some (.int wh), none, none, none, none, none, none, none, none, none, none, none] ∧ m = mem s2 []) ⟨_, _, by simp -implicitDefEqProofs only [x_var, y_var, x_con, x_glob, x_bin, x_neg, x_cmp, x_chain, x_isN, x_notN, x_and, x_and1, x_or, x_or1, x_not, x_ife, x_call, x_callP, x_bi, x_isi, x_listRg, x_ix, x_sl, x_tup, x_lst, x_comp, x_compIf, x_box, x_pop, x_popAt, x_append, x_nil, x_cons, x_seq, x_rng1, x_rng2, x_zip, x_asg, x_setix, x_aug, x_ex, x_if, x_for, x_while, x_ret, x_brk, x_cont, x_bnil, x_bcons, y_rt1, y_rtB, y_bin1, y_bin2, y_cmp1, y_cmp2, y_neg, y_isN, y_notN, y_andT, y_andF, y_orT, y_orF, y_not, y_ifT, y_ifF, y_chain1, y_chain2, y_chainT, y_chainF, y_chain3, y_cons1, y_cons2, y_call, y_callP, y_bi, y_isi, y_ix1, y_ix2, y_tup0, y_tup1, y_tup2, y_tup3, y_tup4, y_lst0, y_lst1, y_lst2, y_lst3, y_lc, y_box, y_pop, y_popAt1, y_popAt2, y_append1, y_append2, y_rtL, y_seq, y_seqT, y_seqL, y_rng21, y_zip1, y_zip2, y_zipT, y_zipL, y_rtE, y_asg, y_set1, y_set2, y_set3, y_aug, y_augA, y_augS, y_ex, y_ifST, y_ifSF, y_for, y_ret, y_nx, y_rt, y_bk, y_ct, y_fnR, y_fnN, y_nm, y_tp, y_tgn, y_tgc, y_tgk, v_add, v_sub, v_eqI, v_eqS, v_eqB, v_neI, v_neS, v_neB, v_lt, v_le, v_gt, v_ge, v_lenT, v_lenL, v_lenF, v_tupL, v_tupT, v_listL, v_listT, v_intI, v_intB, v_max, v_min, v_ixT, v_ixL, v_at0, v_at1, v_at2, y_lst4, y_lst5, y_lst6, y_lst7, y_tup5, y_tup6, y_sl1, y_sl1i, y_sl2, y_sl2i, y_sl3, v_slF, v_slL, v_slT, w_0, w_1, y_part, y_sl1v, y_sl1b, y_sl1n, y_sl2v, y_sl2b, y_sl2n, v_isTT, v_isTI, v_isTB, v_isTS, v_isIT, v_isII, v_isIB, v_isIS, v_isBT, v_isBI, v_isBB, v_isBS, v_isST, v_isSI, v_isSB, v_isSS, v_isN, x_rev, x_join, x_fmt, x_fstr, x_zipS, y_rev, y_join1, y_join2, y_fmt, y_fstr, y_rtS, y_zipS1, y_zipS2, v_revL, List.getElem?_cons_zero, List.getElem?_cons_succ, List.set_cons_zero, List.set_cons_succ, decide_true, decide_false, Int.reduceEq, Int.reduceLT, Int.reduceLE, decide_eq_true_eq, Bool.not_true, Bool.not_false, if_true, if_false, Bool.false_eq_true, e2], rfl, rfl⟩ ?_
  rintro _ _ ⟨rfl, rfl⟩
  refine step_ex (fun e m => e = [some (.frz (ns.map .int)), some (.ref 1), some (.int ch), some (.int wh), some (.int (c : Int)), none, none, none, none, none, none, none, none, none, none] ∧ m = mem s3 []) ⟨_, _, by simp -implicitDefEqProofs only [x_var, y_var, x_con, x_glob, x_bin, x_neg, x_cmp, x_chain, x_isN, x_notN, x_and, x_and1, x_or, x_or1, x_not, x_ife, x_call, x_callP, x_bi, x_isi, x_listRg, x_ix, x_sl, x_tup, x_lst, x_comp, x_compIf, x_box, x_pop, x_popAt, x_append, x_nil, x_cons, x_seq, x_rng1, x_rng2, x_zip, x_asg, x_setix, x_aug, x_ex, x_if, x_for, x_while, x_ret, x_brk, x_cont, x_bnil, x_bcons, y_rt1, y_rtB, y_bin1, y_bin2, y_cmp1, y_cmp2, y_neg, y_isN, y_notN, y_andT, y_andF, y_orT, y_orF, y_not, y_ifT, y_ifF, y_chain1, y_chain2, y_chainT, y_chainF, y_chain3, y_cons1, y_cons2, y_call, y_callP, y_bi, y_isi, y_ix1, y_ix2, y_tup0, y_tup1, y_tup2, y_tup3, y_tup4, y_lst0, y_lst1, y_lst2, y_lst3, y_lc, y_box, y_pop, y_popAt1, y_popAt2, y_append1, y_append2, y_rtL, y_seq, y_seqT, y_seqL, y_rng21, y_zip1, y_zip2, y_zipT, y_zipL, y_rtE, y_asg, y_set1, y_set2, y_set3, y_aug, y_augA, y_augS, y_ex, y_ifST, y_ifSF, y_for, y_ret, y_nx, y_rt, y_bk, y_ct, y_fnR, y_fnN, y_nm, y_tp, y_tgn, y_tgc, y_tgk, v_add, v_sub, v_eqI, v_eqS, v_eqB, v_neI, v_neS, v_neB, v_lt, v_le, v_gt, v_ge, v_lenT, v_lenL, v_lenF, v_tupL, v_tupT, v_listL, v_listT, v_intI, v_intB, v_max, v_min, v_ixT, v_ixL, v_at0, v_at1, v_at2, y_lst4, y_lst5, y_lst6, y_lst7, y_tup5, y_tup6, y_sl1, y_sl1i, y_sl2, y_sl2i, y_sl3, v_slF, v_slL, v_slT, w_0, w_1, y_part, y_sl1v, y_sl1b, y_sl1n, y_sl2v, y_sl2b, y_sl2n, v_isTT, v_isTI, v_isTB, v_isTS, v_isIT, v_isII, v_isIB, v_isIS, v_isBT, v_isBI, v_isBB, v_isBS, v_isST, v_isSI, v_isSB, v_isSS, v_isN, x_rev, x_join, x_fmt, x_fstr, x_zipS, y_rev, y_join1, y_join2, y_fmt, y_fstr, y_rtS, y_zipS1, y_zipS2, v_revL, List.getElem?_cons_zero, List.getElem?_cons_succ, List.set_cons_zero, List.set_cons_succ, decide_true, decide_false, Int.reduceEq, Int.reduceLT, Int.reduceLE, decide_eq_true_eq, Bool.not_true, Bool.not_false, if_true, if_false, Bool.false_eq_true, e3, decide_eq_true_eq, ec], rfl, rfl⟩ ?_
  rintro _ _ ⟨rfl, rfl⟩
  refine step_ex (fun e m => e = [some (.frz (ns.map .int)), some (.ref 1), some (.int ch), some (.int wh), some (.int (c : Int)), some x, none, none, none, none, none, none, none, none, none] ∧ m = mem s4 []) ⟨_, _, by simp -implicitDefEqProofs only [x_var, y_var, x_con, x_glob, x_bin, x_neg, x_cmp, x_chain, x_isN, x_notN, x_and, x_and1, x_or, x_or1, x_not, x_ife, x_call, x_callP, x_bi, x_isi, x_listRg, x_ix, x_sl, x_tup, x_lst, x_comp, x_compIf, x_box, x_pop, x_popAt, x_append, x_nil, x_cons, x_seq, x_rng1, x_rng2, x_zip, x_asg, x_setix, x_aug, x_ex, x_if, x_for, x_while, x_ret, x_brk, x_cont, x_bnil, x_bcons, y_rt1, y_rtB, y_bin1, y_bin2, y_cmp1, y_cmp2, y_neg, y_isN, y_notN, y_andT, y_andF, y_orT, y_orF, y_not, y_ifT, y_ifF, y_chain1, y_chain2, y_chainT, y_chainF, y_chain3, y_cons1, y_cons2, y_call, y_callP, y_bi, y_isi, y_ix1, y_ix2, y_tup0, y_tup1, y_tup2, y_tup3, y_tup4, y_lst0, y_lst1, y_lst2, y_lst3, y_lc, y_box, y_pop, y_popAt1, y_popAt2, y_append1, y_append2, y_rtL, y_seq, y_seqT, y_seqL, y_rng21, y_zip1, y_zip2, y_zipT, y_zipL, y_rtE, y_asg, y_set1, y_set2, y_set3, y_aug, y_augA, y_augS, y_ex, y_ifST, y_ifSF, y_for, y_ret, y_nx, y_rt, y_bk, y_ct, y_fnR, y_fnN, y_nm, y_tp, y_tgn, y_tgc, y_tgk, v_add, v_sub, v_eqI, v_eqS, v_eqB, v_neI, v_neS, v_neB, v_lt, v_le, v_gt, v_ge, v_lenT, v_lenL, v_lenF, v_tupL, v_tupT, v_listL, v_listT, v_intI, v_intB, v_max, v_min, v_ixT, v_ixL, v_at0, v_at1, v_at2, y_lst4, y_lst5, y_lst6, y_lst7, y_tup5, y_tup6, y_sl1, y_sl1i, y_sl2, y_sl2i, y_sl3, v_slF, v_slL, v_slT, w_0, w_1, y_part, y_sl1v, y_sl1b, y_sl1n, y_sl2v, y_sl2b, y_sl2n, v_isTT, v_isTI, v_isTB, v_isTS, v_isIT, v_isII, v_isIB, v_isIS, v_isBT, v_isBI, v_isBB, v_isBS, v_isST, v_isSI, v_isSB, v_isSS, v_isN, x_rev, x_join, x_fmt, x_fstr, x_zipS, y_rev, y_join1, y_join2, y_fmt, y_fstr, y_rtS, y_zipS1, y_zipS2, v_revL, List.getElem?_cons_zero, List.getElem?_cons_succ, List.set_cons_zero, List.set_cons_succ, decide_true, decide_false, Int.reduceEq, Int.reduceLT, Int.reduceLE, decide_eq_true_eq, Bool.not_true, Bool.not_false, if_true, if_false, Bool.false_eq_true, e4'], rfl, rfl⟩ ?_
  rintro _ _ ⟨rfl, rfl⟩
  refine step_ex (fun e m => e = [some (.frz (ns.map .int)), some (.ref 1), some (.int ch), some (.int wh), some (.int (c : Int)), some x, some y, none, none, none, none, none, none, none, none] ∧ m = mem s5 []) ⟨_, _, by simp -implicitDefEqProofs only [x_var, y_var, x_con, x_glob, x_bin, x_neg, x_cmp, x_chain, x_isN, x_notN, x_and, x_and1, x_or, x_or1, x_not, x_ife, x_call, x_callP, x_bi, x_isi, x_listRg, x_ix, x_sl, x_tup, x_lst, x_comp, x_compIf, x_box, x_pop, x_popAt, x_append, x_nil, x_cons, x_seq, x_rng1, x_rng2, x_zip, x_asg, x_setix, x_aug, x_ex, x_if, x_for, x_while, x_ret, x_brk, x_cont, x_bnil, x_bcons, y_rt1, y_rtB, y_bin1, y_bin2, y_cmp1, y_cmp2, y_neg, y_isN, y_notN, y_andT, y_andF, y_orT, y_orF, y_not, y_ifT, y_ifF, y_chain1, y_chain2, y_chainT, y_chainF, y_chain3, y_cons1, y_cons2, y_call, y_callP, y_bi, y_isi, y_ix1, y_ix2, y_tup0, y_tup1, y_tup2, y_tup3, y_tup4, y_lst0, y_lst1, y_lst2, y_lst3, y_lc, y_box, y_pop, y_popAt1, y_popAt2, y_append1, y_append2, y_rtL, y_seq, y_seqT, y_seqL, y_rng21, y_zip1, y_zip2, y_zipT, y_zipL, y_rtE, y_asg, y_set1, y_set2, y_set3, y_aug, y_augA, y_augS, y_ex, y_ifST, y_ifSF, y_for, y_ret, y_nx, y_rt, y_bk, y_ct, y_fnR, y_fnN, y_nm, y_tp, y_tgn, y_tgc, y_tgk, v_add, v_sub, v_eqI, v_eqS, v_eqB, v_neI, v_neS, v_neB, v_lt, v_le, v_gt, v_ge, v_lenT, v_lenL, v_lenF, v_tupL, v_tupT, v_listL, v_listT, v_intI, v_intB, v_max, v_min, v_ixT, v_ixL, v_at0, v_at1, v_at2, y_lst4, y_lst5, y_lst6, y_lst7, y_tup5, y_tup6, y_sl1, y_sl1i, y_sl2, y_sl2i, y_sl3, v_slF, v_slL, v_slT, w_0, w_1, y_part, y_sl1v, y_sl1b, y_sl1n, y_sl2v, y_sl2b, y_sl2n, v_isTT, v_isTI, v_isTB, v_isTS, v_isIT, v_isII, v_isIB, v_isIS, v_isBT, v_isBI, v_isBB, v_isBS, v_isST, v_isSI, v_isSB, v_isSS, v_isN, x_rev, x_join, x_fmt, x_fstr, x_zipS, y_rev, y_join1, y_join2, y_fmt, y_fstr, y_rtS, y_zipS1, y_zipS2, v_revL, List.getElem?_cons_zero, List.getElem?_cons_succ, List.set_cons_zero, List.set_cons_succ, decide_true, decide_false, Int.reduceEq, Int.reduceLT, Int.reduceLE, decide_eq_true_eq, Bool.not_true, Bool.not_false, if_true, if_false, Bool.false_eq_true, e5'], rfl, rfl⟩ ?_
  rintro _ _ ⟨rfl, rfl⟩
  -- the other one
  refine step_ex (fun e m => ∃ z a8 a13 a14, e = [some (.frz (ns.map .int)), some (.ref 1), some (.int ch), some (.int wh), some (.int (c : Int)), some x, some z, none, a8, none, none, none, none, a13, a14] ∧ okN 17 z = true ∧ sz z ≤ 200000) ?_ ?_
  · by_cases hch : 0 < ch
    · obtain ⟨g, l, fs, e6, hm, hne, hfs⟩ := places_ok (G := GG) (k := 288) ox (by decide) (by omega) (mem s5 [])
      have hfl : 0 < fs.length := List.length_pos_iff.mpr hne
      obtain ⟨j, hj, ej⟩ : ∃ j : Nat, j < fs.length ∧ (wh % ((fs.map pq).length : Int)) = (j : Int) := by
        refine ⟨(wh % (fs.length : Int)).toNat, ?_, ?_⟩
        · have h1 := Int.emod_nonneg wh (show ((fs.length : Int)) ≠ 0 by omega)
          have h2 := Int.emod_lt_of_pos wh (show 0 < (fs.length : Int) by omega)
          omega
        · have h1 := Int.emod_nonneg wh (show ((fs.length : Int)) ≠ 0 by omega)
          rw [List.length_map]
          omega
      have hlp : (0 : Int) < ((fs.map pq).length : Int) := by rw [List.length_map]; omega
      have hpj := hfs fs[j] (List.getElem_mem hj)
      have eat : atD (fs.map pq) (j : Int) = some (.tup [.tup (fs[j].1.map nD), fs[j].2]) := atD_nat (by simp [hj, pq])
      obtain ⟨oh, ph, zh⟩ := getP_ok ox hpj
      generalize fs[j].1 = p at *
      generalize fs[j].2 = hd at *
      obtain ⟨b, s6, e7, ob, zb, k6, o6⟩ := beside_ok (G := GG) (k := 286) oh (by decide) (fun xs e => smx p xs (by rw [hpj, e])) s5 o5 (by omega) g
      have sel : ∃ v, atD [hd, b] (if 1 < ch then 1 else 0) = some v ∧ okN 9 v = true ∧ sz v ≤ sz hd + 1 := by
        by_cases h1 : 1 < ch
        · exact ⟨b, by rw [if_pos h1]; rfl, ob, zb⟩
        · exact ⟨hd, by rw [if_neg h1]; rfl, okN_up oh, by omega⟩
      obtain ⟨v, ev, ov, zv⟩ := sel
      obtain ⟨r, e8, or, zr⟩ := set_ok (G := GG) ov (m := mem s6 g) p (288 - p.length) 8 x hd ox (by decide) hpj
      rw [show 288 - p.length + p.length + 1 = 289 by omega] at e8
      have em : mem s5 [] ++ g = mem s5 g := rfl
      rw [em] at e6 hm
      refine ⟨_, mem s6 g, ?_, r, some (.ref l), some (.tup (p.map nD)), some hd, rfl, or, by omega⟩
      simp -implicitDefEqProofs only [x_var, y_var, x_con, x_glob, x_bin, x_neg, x_cmp, x_chain, x_isN, x_notN, x_and, x_and1, x_or, x_or1, x_not, x_ife, x_call, x_callP, x_bi, x_isi, x_listRg, x_ix, x_sl, x_tup, x_lst, x_comp, x_compIf, x_box, x_pop, x_popAt, x_append, x_nil, x_cons, x_seq, x_rng1, x_rng2, x_zip, x_asg, x_setix, x_aug, x_ex, x_if, x_for, x_while, x_ret, x_brk, x_cont, x_bnil, x_bcons, y_rt1, y_rtB, y_bin1, y_bin2, y_cmp1, y_cmp2, y_neg, y_isN, y_notN, y_andT, y_andF, y_orT, y_orF, y_not, y_ifT, y_ifF, y_chain1, y_chain2, y_chainT, y_chainF, y_chain3, y_cons1, y_cons2, y_call, y_callP, y_bi, y_isi, y_ix1, y_ix2, y_tup0, y_tup1, y_tup2, y_tup3, y_tup4, y_lst0, y_lst1, y_lst2, y_lst3, y_lc, y_box, y_pop, y_popAt1, y_popAt2, y_append1, y_append2, y_rtL, y_seq, y_seqT, y_seqL, y_rng21, y_zip1, y_zip2, y_zipT, y_zipL, y_rtE, y_asg, y_set1, y_set2, y_set3, y_aug, y_augA, y_augS, y_ex, y_ifST, y_ifSF, y_for, y_ret, y_nx, y_rt, y_bk, y_ct, y_fnR, y_fnN, y_nm, y_tp, y_tgn, y_tgc, y_tgk, v_add, v_sub, v_eqI, v_eqS, v_eqB, v_neI, v_neS, v_neB, v_lt, v_le, v_gt, v_ge, v_lenT, v_lenL, v_lenF, v_tupL, v_tupT, v_listL, v_listT, v_intI, v_intB, v_max, v_min, v_ixT, v_ixL, v_at0, v_at1, v_at2, y_lst4, y_lst5, y_lst6, y_lst7, y_tup5, y_tup6, y_sl1, y_sl1i, y_sl2, y_sl2i, y_sl3, v_slF, v_slL, v_slT, w_0, w_1, y_part, y_sl1v, y_sl1b, y_sl1n, y_sl2v, y_sl2b, y_sl2n, v_isTT, v_isTI, v_isTB, v_isTS, v_isIT, v_isII, v_isIB, v_isIS, v_isBT, v_isBI, v_isBB, v_isBS, v_isST, v_isSI, v_isSB, v_isSS, v_isN, x_rev, x_join, x_fmt, x_fstr, x_zipS, y_rev, y_join1, y_join2, y_fmt, y_fstr, y_rtS, y_zipS1, y_zipS2, v_revL, List.getElem?_cons_zero, List.getElem?_cons_succ, List.set_cons_zero, List.set_cons_succ, decide_true, decide_false, Int.reduceEq, Int.reduceLT, Int.reduceLE, decide_eq_true_eq, Bool.not_true, Bool.not_false, if_true, if_false, Bool.false_eq_true, hch, e6, v_lenR hm, v_mod hlp, ej, v_ixR hm, eat, e7, ev, e8, y_pure (okN_pure or).1]
    · refine ⟨_, mem s5 [], by simp -implicitDefEqProofs only [x_var, y_var, x_con, x_glob, x_bin, x_neg, x_cmp, x_chain, x_isN, x_notN, x_and, x_and1, x_or, x_or1, x_not, x_ife, x_call, x_callP, x_bi, x_isi, x_listRg, x_ix, x_sl, x_tup, x_lst, x_comp, x_compIf, x_box, x_pop, x_popAt, x_append, x_nil, x_cons, x_seq, x_rng1, x_rng2, x_zip, x_asg, x_setix, x_aug, x_ex, x_if, x_for, x_while, x_ret, x_brk, x_cont, x_bnil, x_bcons, y_rt1, y_rtB, y_bin1, y_bin2, y_cmp1, y_cmp2, y_neg, y_isN, y_notN, y_andT, y_andF, y_orT, y_orF, y_not, y_ifT, y_ifF, y_chain1, y_chain2, y_chainT, y_chainF, y_chain3, y_cons1, y_cons2, y_call, y_callP, y_bi, y_isi, y_ix1, y_ix2, y_tup0, y_tup1, y_tup2, y_tup3, y_tup4, y_lst0, y_lst1, y_lst2, y_lst3, y_lc, y_box, y_pop, y_popAt1, y_popAt2, y_append1, y_append2, y_rtL, y_seq, y_seqT, y_seqL, y_rng21, y_zip1, y_zip2, y_zipT, y_zipL, y_rtE, y_asg, y_set1, y_set2, y_set3, y_aug, y_augA, y_augS, y_ex, y_ifST, y_ifSF, y_for, y_ret, y_nx, y_rt, y_bk, y_ct, y_fnR, y_fnN, y_nm, y_tp, y_tgn, y_tgc, y_tgk, v_add, v_sub, v_eqI, v_eqS, v_eqB, v_neI, v_neS, v_neB, v_lt, v_le, v_gt, v_ge, v_lenT, v_lenL, v_lenF, v_tupL, v_tupT, v_listL, v_listT, v_intI, v_intB, v_max, v_min, v_ixT, v_ixL, v_at0, v_at1, v_at2, y_lst4, y_lst5, y_lst6, y_lst7, y_tup5, y_tup6, y_sl1, y_sl1i, y_sl2, y_sl2i, y_sl3, v_slF, v_slL, v_slT, w_0, w_1, y_part, y_sl1v, y_sl1b, y_sl1n, y_sl2v, y_sl2b, y_sl2n, v_isTT, v_isTI, v_isTB, v_isTS, v_isIT, v_isII, v_isIB, v_isIS, v_isBT, v_isBI, v_isBB, v_isBS, v_isST, v_isSI, v_isSB, v_isSS, v_isN, x_rev, x_join, x_fmt, x_fstr, x_zipS, y_rev, y_join1, y_join2, y_fmt, y_fstr, y_rtS, y_zipS1, y_zipS2, v_revL, List.getElem?_cons_zero, List.getElem?_cons_succ, List.set_cons_zero, List.set_cons_succ, decide_true, decide_false, Int.reduceEq, Int.reduceLT, Int.reduceLE, decide_eq_true_eq, Bool.not_true, Bool.not_false, if_true, if_false, Bool.false_eq_true, hch], y, none, none, none, rfl, okN_le oy (by decide), by omega⟩
  rintro _ m ⟨z, a8, a13, a14, rfl, oz, zz⟩
  obtain ⟨x', ea, oa, za⟩ := around_ok (G := GG) (k := 288) c hc ox m
  obtain ⟨z', eb, ob, zb⟩ := around_ok (G := GG) (k := 288) c hc oz m
  refine step_ex (fun e m' => e = [some (.frz (ns.map .int)), some (.ref 1), some (.int ch), some (.int wh), some (.int (c : Int)), some x', some z, none, a8, none, none, none, none, a13, a14] ∧ m' = m) ⟨_, _, by simp -implicitDefEqProofs only [x_var, y_var, x_con, x_glob, x_bin, x_neg, x_cmp, x_chain, x_isN, x_notN, x_and, x_and1, x_or, x_or1, x_not, x_ife, x_call, x_callP, x_bi, x_isi, x_listRg, x_ix, x_sl, x_tup, x_lst, x_comp, x_compIf, x_box, x_pop, x_popAt, x_append, x_nil, x_cons, x_seq, x_rng1, x_rng2, x_zip, x_asg, x_setix, x_aug, x_ex, x_if, x_for, x_while, x_ret, x_brk, x_cont, x_bnil, x_bcons, y_rt1, y_rtB, y_bin1, y_bin2, y_cmp1, y_cmp2, y_neg, y_isN, y_notN, y_andT, y_andF, y_orT, y_orF, y_not, y_ifT, y_ifF, y_chain1, y_chain2, y_chainT, y_chainF, y_chain3, y_cons1, y_cons2, y_call, y_callP, y_bi, y_isi, y_ix1, y_ix2, y_tup0, y_tup1, y_tup2, y_tup3, y_tup4, y_lst0, y_lst1, y_lst2, y_lst3, y_lc, y_box, y_pop, y_popAt1, y_popAt2, y_append1, y_append2, y_rtL, y_seq, y_seqT, y_seqL, y_rng21, y_zip1, y_zip2, y_zipT, y_zipL, y_rtE, y_asg, y_set1, y_set2, y_set3, y_aug, y_augA, y_augS, y_ex, y_ifST, y_ifSF, y_for, y_ret, y_nx, y_rt, y_bk, y_ct, y_fnR, y_fnN, y_nm, y_tp, y_tgn, y_tgc, y_tgk, v_add, v_sub, v_eqI, v_eqS, v_eqB, v_neI, v_neS, v_neB, v_lt, v_le, v_gt, v_ge, v_lenT, v_lenL, v_lenF, v_tupL, v_tupT, v_listL, v_listT, v_intI, v_intB, v_max, v_min, v_ixT, v_ixL, v_at0, v_at1, v_at2, y_lst4, y_lst5, y_lst6, y_lst7, y_tup5, y_tup6, y_sl1, y_sl1i, y_sl2, y_sl2i, y_sl3, v_slF, v_slL, v_slT, w_0, w_1, y_part, y_sl1v, y_sl1b, y_sl1n, y_sl2v, y_sl2b, y_sl2n, v_isTT, v_isTI, v_isTB, v_isTS, v_isIT, v_isII, v_isIB, v_isIS, v_isBT, v_isBI, v_isBB, v_isBS, v_isST, v_isSI, v_isSB, v_isSS, v_isN, x_rev, x_join, x_fmt, x_fstr, x_zipS, y_rev, y_join1, y_join2, y_fmt, y_fstr, y_rtS, y_zipS1, y_zipS2, v_revL, List.getElem?_cons_zero, List.getElem?_cons_succ, List.set_cons_zero, List.set_cons_succ, decide_true, decide_false, Int.reduceEq, Int.reduceLT, Int.reduceLE, decide_eq_true_eq, Bool.not_true, Bool.not_false, if_true, if_false, Bool.false_eq_true, ea, y_pure (okN_pure oa).1], rfl, rfl⟩ ?_
  rintro _ _ ⟨rfl, rfl⟩
  rename_i m
  refine step_ex (fun e m' => e = [some (.frz (ns.map .int)), some (.ref 1), some (.int ch), some (.int wh), some (.int (c : Int)), some x', some z', none, a8, none, none, none, none, a13, a14] ∧ m' = m) ⟨_, _, by simp -implicitDefEqProofs only [x_var, y_var, x_con, x_glob, x_bin, x_neg, x_cmp, x_chain, x_isN, x_notN, x_and, x_and1, x_or, x_or1, x_not, x_ife, x_call, x_callP, x_bi, x_isi, x_listRg, x_ix, x_sl, x_tup, x_lst, x_comp, x_compIf, x_box, x_pop, x_popAt, x_append, x_nil, x_cons, x_seq, x_rng1, x_rng2, x_zip, x_asg, x_setix, x_aug, x_ex, x_if, x_for, x_while, x_ret, x_brk, x_cont, x_bnil, x_bcons, y_rt1, y_rtB, y_bin1, y_bin2, y_cmp1, y_cmp2, y_neg, y_isN, y_notN, y_andT, y_andF, y_orT, y_orF, y_not, y_ifT, y_ifF, y_chain1, y_chain2, y_chainT, y_chainF, y_chain3, y_cons1, y_cons2, y_call, y_callP, y_bi, y_isi, y_ix1, y_ix2, y_tup0, y_tup1, y_tup2, y_tup3, y_tup4, y_lst0, y_lst1, y_lst2, y_lst3, y_lc, y_box, y_pop, y_popAt1, y_popAt2, y_append1, y_append2, y_rtL, y_seq, y_seqT, y_seqL, y_rng21, y_zip1, y_zip2, y_zipT, y_zipL, y_rtE, y_asg, y_set1, y_set2, y_set3, y_aug, y_augA, y_augS, y_ex, y_ifST, y_ifSF, y_for, y_ret, y_nx, y_rt, y_bk, y_ct, y_fnR, y_fnN, y_nm, y_tp, y_tgn, y_tgc, y_tgk, v_add, v_sub, v_eqI, v_eqS, v_eqB, v_neI, v_neS, v_neB, v_lt, v_le, v_gt, v_ge, v_lenT, v_lenL, v_lenF, v_tupL, v_tupT, v_listL, v_listT, v_intI, v_intB, v_max, v_min, v_ixT, v_ixL, v_at0, v_at1, v_at2, y_lst4, y_lst5, y_lst6, y_lst7, y_tup5, y_tup6, y_sl1, y_sl1i, y_sl2, y_sl2i, y_sl3, v_slF, v_slL, v_slT, w_0, w_1, y_part, y_sl1v, y_sl1b, y_sl1n, y_sl2v, y_sl2b, y_sl2n, v_isTT, v_isTI, v_isTB, v_isTS, v_isIT, v_isII, v_isIB, v_isIS, v_isBT, v_isBI, v_isBB, v_isBS, v_isST, v_isSI, v_isSB, v_isSS, v_isN, x_rev, x_join, x_fmt, x_fstr, x_zipS, y_rev, y_join1, y_join2, y_fmt, y_fstr, y_rtS, y_zipS1, y_zipS2, v_revL, List.getElem?_cons_zero, List.getElem?_cons_succ, List.set_cons_zero, List.set_cons_succ, decide_true, decide_false, Int.reduceEq, Int.reduceLT, Int.reduceLE, decide_eq_true_eq, Bool.not_true, Bool.not_false, if_true, if_false, Bool.false_eq_true, eb, y_pure (okN_pure ob).1], rfl, rfl⟩ ?_
  rintro _ _ ⟨rfl, rfl⟩
  rename_i m
  have oa' : okN 288 x' = true := okN_le oa (by omega)
  have ob' : okN 288 z' = true := okN_le ob (by omega)
  obtain ⟨g, es⟩ := same_ok (G := GG) (k := 288) oa' ob' (by omega) m
  refine step_ex (fun e m' => e = [some (.frz (ns.map .int)), some (.ref 1), some (.int ch), some (.int wh), some (.int (c : Int)), some x', some z', some (.bl (decide (x' = z'))), a8, none, none, none, none, a13, a14] ∧ m' = m) ⟨_, _, by simp -implicitDefEqProofs only [x_var, y_var, x_con, x_glob, x_bin, x_neg, x_cmp, x_chain, x_isN, x_notN, x_and, x_and1, x_or, x_or1, x_not, x_ife, x_call, x_callP, x_bi, x_isi, x_listRg, x_ix, x_sl, x_tup, x_lst, x_comp, x_compIf, x_box, x_pop, x_popAt, x_append, x_nil, x_cons, x_seq, x_rng1, x_rng2, x_zip, x_asg, x_setix, x_aug, x_ex, x_if, x_for, x_while, x_ret, x_brk, x_cont, x_bnil, x_bcons, y_rt1, y_rtB, y_bin1, y_bin2, y_cmp1, y_cmp2, y_neg, y_isN, y_notN, y_andT, y_andF, y_orT, y_orF, y_not, y_ifT, y_ifF, y_chain1, y_chain2, y_chainT, y_chainF, y_chain3, y_cons1, y_cons2, y_call, y_callP, y_bi, y_isi, y_ix1, y_ix2, y_tup0, y_tup1, y_tup2, y_tup3, y_tup4, y_lst0, y_lst1, y_lst2, y_lst3, y_lc, y_box, y_pop, y_popAt1, y_popAt2, y_append1, y_append2, y_rtL, y_seq, y_seqT, y_seqL, y_rng21, y_zip1, y_zip2, y_zipT, y_zipL, y_rtE, y_asg, y_set1, y_set2, y_set3, y_aug, y_augA, y_augS, y_ex, y_ifST, y_ifSF, y_for, y_ret, y_nx, y_rt, y_bk, y_ct, y_fnR, y_fnN, y_nm, y_tp, y_tgn, y_tgc, y_tgk, v_add, v_sub, v_eqI, v_eqS, v_eqB, v_neI, v_neS, v_neB, v_lt, v_le, v_gt, v_ge, v_lenT, v_lenL, v_lenF, v_tupL, v_tupT, v_listL, v_listT, v_intI, v_intB, v_max, v_min, v_ixT, v_ixL, v_at0, v_at1, v_at2, y_lst4, y_lst5, y_lst6, y_lst7, y_tup5, y_tup6, y_sl1, y_sl1i, y_sl2, y_sl2i, y_sl3, v_slF, v_slL, v_slT, w_0, w_1, y_part, y_sl1v, y_sl1b, y_sl1n, y_sl2v, y_sl2b, y_sl2n, v_isTT, v_isTI, v_isTB, v_isTS, v_isIT, v_isII, v_isIB, v_isIS, v_isBT, v_isBI, v_isBB, v_isBS, v_isST, v_isSI, v_isSB, v_isSS, v_isN, x_rev, x_join, x_fmt, x_fstr, x_zipS, y_rev, y_join1, y_join2, y_fmt, y_fstr, y_rtS, y_zipS1, y_zipS2, v_revL, List.getElem?_cons_zero, List.getElem?_cons_succ, List.set_cons_zero, List.set_cons_succ, decide_true, decide_false, Int.reduceEq, Int.reduceLT, Int.reduceLE, decide_eq_true_eq, Bool.not_true, Bool.not_false, if_true, if_false, Bool.false_eq_true, es, y_pureG (show pure_ (.bl (decide (x' = z'))) = true from rfl)], rfl, rfl⟩ ?_
  rintro _ _ ⟨rfl, rfl⟩
  rename_i m
  have al := alike_ok (G := GG) 288
  have an := anew_ok (G := GG) 288 x' m oa'
  have turn : ∀ (l r : D) (t : Bool) (u9 u10 u11 u12 : Option D), okN 288 l = true → okN 288 r = true → decide (l = r) = t →
      bindTg m (.tp (.cons (.nm 9) (.cons (.nm 10) (.cons (.nm 11) .nil)))) (.tup [l, r, .bl t]) [some (.frz (ns.map .int)), some (.ref 1), some (.int ch), some (.int wh), some (.int (c : Int)), some x', some z', some (.bl (decide (x' = z'))), a8, u9, u10, u11, u12, a13, a14] = some [some (.frz (ns.map .int)), some (.ref 1), some (.int ch), some (.int wh), some (.int (c : Int)), some x', some z', some (.bl (decide (x' = z'))), a8, some l, some r, some (.bl t), u12, a13, a14] ∧
      evB (run tab GG 289) GG l_law_0 [some (.frz (ns.map .int)), some (.ref 1), some (.int ch), some (.int wh), some (.int (c : Int)), some x', some z', some (.bl (decide (x' = z'))), a8, some l, some r, some (.bl t), u12, a13, a14] m = some (.nx, [some (.frz (ns.map .int)), some (.ref 1), some (.int ch), some (.int wh), some (.int (c : Int)), some x', some z', some (.bl (decide (x' = z'))), a8, some l, some r, some (.bl t), some (.bl t), a13, a14], m) := by
    intro l r t u9 u10 u11 u12 hl hr ht
    refine ⟨by simp -implicitDefEqProofs only [x_var, y_var, x_con, x_glob, x_bin, x_neg, x_cmp, x_chain, x_isN, x_notN, x_and, x_and1, x_or, x_or1, x_not, x_ife, x_call, x_callP, x_bi, x_isi, x_listRg, x_ix, x_sl, x_tup, x_lst, x_comp, x_compIf, x_box, x_pop, x_popAt, x_append, x_nil, x_cons, x_seq, x_rng1, x_rng2, x_zip, x_asg, x_setix, x_aug, x_ex, x_if, x_for, x_while, x_ret, x_brk, x_cont, x_bnil, x_bcons, y_rt1, y_rtB, y_bin1, y_bin2, y_cmp1, y_cmp2, y_neg, y_isN, y_notN, y_andT, y_andF, y_orT, y_orF, y_not, y_ifT, y_ifF, y_chain1, y_chain2, y_chainT, y_chainF, y_chain3, y_cons1, y_cons2, y_call, y_callP, y_bi, y_isi, y_ix1, y_ix2, y_tup0, y_tup1, y_tup2, y_tup3, y_tup4, y_lst0, y_lst1, y_lst2, y_lst3, y_lc, y_box, y_pop, y_popAt1, y_popAt2, y_append1, y_append2, y_rtL, y_seq, y_seqT, y_seqL, y_rng21, y_zip1, y_zip2, y_zipT, y_zipL, y_rtE, y_asg, y_set1, y_set2, y_set3, y_aug, y_augA, y_augS, y_ex, y_ifST, y_ifSF, y_for, y_ret, y_nx, y_rt, y_bk, y_ct, y_fnR, y_fnN, y_nm, y_tp, y_tgn, y_tgc, y_tgk, v_add, v_sub, v_eqI, v_eqS, v_eqB, v_neI, v_neS, v_neB, v_lt, v_le, v_gt, v_ge, v_lenT, v_lenL, v_lenF, v_tupL, v_tupT, v_listL, v_listT, v_intI, v_intB, v_max, v_min, v_ixT, v_ixL, v_at0, v_at1, v_at2, y_lst4, y_lst5, y_lst6, y_lst7, y_tup5, y_tup6, y_sl1, y_sl1i, y_sl2, y_sl2i, y_sl3, v_slF, v_slL, v_slT, w_0, w_1, y_part, y_sl1v, y_sl1b, y_sl1n, y_sl2v, y_sl2b, y_sl2n, v_isTT, v_isTI, v_isTB, v_isTS, v_isIT, v_isII, v_isIB, v_isIS, v_isBT, v_isBI, v_isBB, v_isBS, v_isST, v_isSI, v_isSB, v_isSS, v_isN, x_rev, x_join, x_fmt, x_fstr, x_zipS, y_rev, y_join1, y_join2, y_fmt, y_fstr, y_rtS, y_zipS1, y_zipS2, v_revL, List.getElem?_cons_zero, List.getElem?_cons_succ, List.set_cons_zero, List.set_cons_succ, decide_true, decide_false, Int.reduceEq, Int.reduceLT, Int.reduceLE, decide_eq_true_eq, Bool.not_true, Bool.not_false, if_true, if_false, Bool.false_eq_true], ?_⟩
    have a := al l r m hl hr
    rw [ht] at a
    simp -implicitDefEqProofs only [x_var, y_var, x_con, x_glob, x_bin, x_neg, x_cmp, x_chain, x_isN, x_notN, x_and, x_and1, x_or, x_or1, x_not, x_ife, x_call, x_callP, x_bi, x_isi, x_listRg, x_ix, x_sl, x_tup, x_lst, x_comp, x_compIf, x_box, x_pop, x_popAt, x_append, x_nil, x_cons, x_seq, x_rng1, x_rng2, x_zip, x_asg, x_setix, x_aug, x_ex, x_if, x_for, x_while, x_ret, x_brk, x_cont, x_bnil, x_bcons, y_rt1, y_rtB, y_bin1, y_bin2, y_cmp1, y_cmp2, y_neg, y_isN, y_notN, y_andT, y_andF, y_orT, y_orF, y_not, y_ifT, y_ifF, y_chain1, y_chain2, y_chainT, y_chainF, y_chain3, y_cons1, y_cons2, y_call, y_callP, y_bi, y_isi, y_ix1, y_ix2, y_tup0, y_tup1, y_tup2, y_tup3, y_tup4, y_lst0, y_lst1, y_lst2, y_lst3, y_lc, y_box, y_pop, y_popAt1, y_popAt2, y_append1, y_append2, y_rtL, y_seq, y_seqT, y_seqL, y_rng21, y_zip1, y_zip2, y_zipT, y_zipL, y_rtE, y_asg, y_set1, y_set2, y_set3, y_aug, y_augA, y_augS, y_ex, y_ifST, y_ifSF, y_for, y_ret, y_nx, y_rt, y_bk, y_ct, y_fnR, y_fnN, y_nm, y_tp, y_tgn, y_tgc, y_tgk, v_add, v_sub, v_eqI, v_eqS, v_eqB, v_neI, v_neS, v_neB, v_lt, v_le, v_gt, v_ge, v_lenT, v_lenL, v_lenF, v_tupL, v_tupT, v_listL, v_listT, v_intI, v_intB, v_max, v_min, v_ixT, v_ixL, v_at0, v_at1, v_at2, y_lst4, y_lst5, y_lst6, y_lst7, y_tup5, y_tup6, y_sl1, y_sl1i, y_sl2, y_sl2i, y_sl3, v_slF, v_slL, v_slT, w_0, w_1, y_part, y_sl1v, y_sl1b, y_sl1n, y_sl2v, y_sl2b, y_sl2n, v_isTT, v_isTI, v_isTB, v_isTS, v_isIT, v_isII, v_isIB, v_isIS, v_isBT, v_isBI, v_isBB, v_isBS, v_isST, v_isSI, v_isSB, v_isSS, v_isN, x_rev, x_join, x_fmt, x_fstr, x_zipS, y_rev, y_join1, y_join2, y_fmt, y_fstr, y_rtS, y_zipS1, y_zipS2, v_revL, List.getElem?_cons_zero, List.getElem?_cons_succ, List.set_cons_zero, List.set_cons_succ, decide_true, decide_false, Int.reduceEq, Int.reduceLT, Int.reduceLE, decide_eq_true_eq, Bool.not_true, Bool.not_false, if_true, if_false, Bool.false_eq_true, l_law_0, a, y_pure (show pure_ (.bl t) = true from rfl), beq_self_eq_true, Bool.not_true]
  have t1 := turn x' z' (decide (x' = z')) none none none none oa' ob' rfl
  have t2 := turn z' x' (decide (x' = z')) (some x') (some z') (some (.bl (decide (x' = z')))) (some (.bl (decide (x' = z')))) ob' oa' (by rw [decide_eq_decide]; exact eq_comm)
  have t3 := turn x' x' true (some z') (some x') (some (.bl (decide (x' = z')))) (some (.bl (decide (x' = z')))) oa' oa' (by simp)
  have t4 := turn z' z' true (some x') (some x') (some (.bl true)) (some (.bl true)) ob' ob' (by simp)
  refine ⟨m, ?_⟩
  simp -implicitDefEqProofs only [x_var, y_var, x_con, x_glob, x_bin, x_neg, x_cmp, x_chain, x_isN, x_notN, x_and, x_and1, x_or, x_or1, x_not, x_ife, x_call, x_callP, x_bi, x_isi, x_listRg, x_ix, x_sl, x_tup, x_lst, x_comp, x_compIf, x_box, x_pop, x_popAt, x_append, x_nil, x_cons, x_seq, x_rng1, x_rng2, x_zip, x_asg, x_setix, x_aug, x_ex, x_if, x_for, x_while, x_ret, x_brk, x_cont, x_bnil, x_bcons, y_rt1, y_rtB, y_bin1, y_bin2, y_cmp1, y_cmp2, y_neg, y_isN, y_notN, y_andT, y_andF, y_orT, y_orF, y_not, y_ifT, y_ifF, y_chain1, y_chain2, y_chainT, y_chainF, y_chain3, y_cons1, y_cons2, y_call, y_callP, y_bi, y_isi, y_ix1, y_ix2, y_tup0, y_tup1, y_tup2, y_tup3, y_tup4, y_lst0, y_lst1, y_lst2, y_lst3, y_lc, y_box, y_pop, y_popAt1, y_popAt2, y_append1, y_append2, y_rtL, y_seq, y_seqT, y_seqL, y_rng21, y_zip1, y_zip2, y_zipT, y_zipL, y_rtE, y_asg, y_set1, y_set2, y_set3, y_aug, y_augA, y_augS, y_ex, y_ifST, y_ifSF, y_for, y_ret, y_nx, y_rt, y_bk, y_ct, y_fnR, y_fnN, y_nm, y_tp, y_tgn, y_tgc, y_tgk, v_add, v_sub, v_eqI, v_eqS, v_eqB, v_neI, v_neS, v_neB, v_lt, v_le, v_gt, v_ge, v_lenT, v_lenL, v_lenF, v_tupL, v_tupT, v_listL, v_listT, v_intI, v_intB, v_max, v_min, v_ixT, v_ixL, v_at0, v_at1, v_at2, y_lst4, y_lst5, y_lst6, y_lst7, y_tup5, y_tup6, y_sl1, y_sl1i, y_sl2, y_sl2i, y_sl3, v_slF, v_slL, v_slT, w_0, w_1, y_part, y_sl1v, y_sl1b, y_sl1n, y_sl2v, y_sl2b, y_sl2n, v_isTT, v_isTI, v_isTB, v_isTS, v_isIT, v_isII, v_isIB, v_isIS, v_isBT, v_isBI, v_isBB, v_isBS, v_isST, v_isSI, v_isSB, v_isSS, v_isN, x_rev, x_join, x_fmt, x_fstr, x_zipS, y_rev, y_join1, y_join2, y_fmt, y_fstr, y_rtS, y_zipS1, y_zipS2, v_revL, List.getElem?_cons_zero, List.getElem?_cons_succ, List.set_cons_zero, List.set_cons_succ, decide_true, decide_false, Int.reduceEq, Int.reduceLT, Int.reduceLE, decide_eq_true_eq, Bool.not_true, Bool.not_false, if_true, if_false, Bool.false_eq_true, an, y_pure (okN_pure oa').1]
  rw [forC t1.1 t1.2, forC t2.1 t2.2, forC t3.1 t3.2, forC t4.1 t4.2]
  simp -implicitDefEqProofs only [x_var, y_var, x_con, x_glob, x_bin, x_neg, x_cmp, x_chain, x_isN, x_notN, x_and, x_and1, x_or, x_or1, x_not, x_ife, x_call, x_callP, x_bi, x_isi, x_listRg, x_ix, x_sl, x_tup, x_lst, x_comp, x_compIf, x_box, x_pop, x_popAt, x_append, x_nil, x_cons, x_seq, x_rng1, x_rng2, x_zip, x_asg, x_setix, x_aug, x_ex, x_if, x_for, x_while, x_ret, x_brk, x_cont, x_bnil, x_bcons, y_rt1, y_rtB, y_bin1, y_bin2, y_cmp1, y_cmp2, y_neg, y_isN, y_notN, y_andT, y_andF, y_orT, y_orF, y_not, y_ifT, y_ifF, y_chain1, y_chain2, y_chainT, y_chainF, y_chain3, y_cons1, y_cons2, y_call, y_callP, y_bi, y_isi, y_ix1, y_ix2, y_tup0, y_tup1, y_tup2, y_tup3, y_tup4, y_lst0, y_lst1, y_lst2, y_lst3, y_lc, y_box, y_pop, y_popAt1, y_popAt2, y_append1, y_append2, y_rtL, y_seq, y_seqT, y_seqL, y_rng21, y_zip1, y_zip2, y_zipT, y_zipL, y_rtE, y_asg, y_set1, y_set2, y_set3, y_aug, y_augA, y_augS, y_ex, y_ifST, y_ifSF, y_for, y_ret, y_nx, y_rt, y_bk, y_ct, y_fnR, y_fnN, y_nm, y_tp, y_tgn, y_tgc, y_tgk, v_add, v_sub, v_eqI, v_eqS, v_eqB, v_neI, v_neS, v_neB, v_lt, v_le, v_gt, v_ge, v_lenT, v_lenL, v_lenF, v_tupL, v_tupT, v_listL, v_listT, v_intI, v_intB, v_max, v_min, v_ixT, v_ixL, v_at0, v_at1, v_at2, y_lst4, y_lst5, y_lst6, y_lst7, y_tup5, y_tup6, y_sl1, y_sl1i, y_sl2, y_sl2i, y_sl3, v_slF, v_slL, v_slT, w_0, w_1, y_part, y_sl1v, y_sl1b, y_sl1n, y_sl2v, y_sl2b, y_sl2n, v_isTT, v_isTI, v_isTB, v_isTS, v_isIT, v_isII, v_isIB, v_isIS, v_isBT, v_isBI, v_isBB, v_isBS, v_isST, v_isSI, v_isSB, v_isSS, v_isN, x_rev, x_join, x_fmt, x_fstr, x_zipS, y_rev, y_join1, y_join2, y_fmt, y_fstr, y_rtS, y_zipS1, y_zipS2, v_revL, List.getElem?_cons_zero, List.getElem?_cons_succ, List.set_cons_zero, List.set_cons_succ, decide_true, decide_false, Int.reduceEq, Int.reduceLT, Int.reduceLE, decide_eq_true_eq, Bool.not_true, Bool.not_false, if_true, if_false, Bool.false_eq_true, y_for0]
end Lw

namespace Lw
open PySem Pv L2
def top (i : Nat) : Stmt := PySem.Challenge.pw_packedforms_k01_alike_or_not.main.body.getD i (.Pass ⟨0, 0, 0, 0⟩)
theorem ck_0 : (scB f_alike (top 1) && isB tab glo ⟨f_alike.ns, defScope (top 1), fun _ => true⟩ f_alike.body (defBody (top 1))) = true := by decide +kernel
theorem pa_0 : plainArgs f_alike (top 1) := fun _ _ _ _ _ _ us hl => match us, hl with | [_, _], _ => rfl
theorem ck_1 : (scB f__law_deck (top 3) && isB tab glo ⟨f__law_deck.ns, defScope (top 3), fun _ => true⟩ f__law_deck.body (defBody (top 3))) = true := by decide +kernel
theorem pa_1 : plainArgs f__law_deck (top 3) := fun _ _ _ _ _ _ us hl => match us, hl with | [_], _ => rfl
theorem ck_2 : (scB f__law_pick (top 4) && isB tab glo ⟨f__law_pick.ns, defScope (top 4), fun _ => true⟩ f__law_pick.body (defBody (top 4))) = true := by decide +kernel
theorem pa_2 : plainArgs f__law_pick (top 4) := fun _ _ _ _ _ _ us hl => match us, hl with | [_, _], _ => rfl
theorem ck_3 : (scB f__law_same (top 5) && isB tab glo ⟨f__law_same.ns, defScope (top 5), fun _ => true⟩ f__law_same.body (defBody (top 5))) = true := by decide +kernel
theorem pa_3 : plainArgs f__law_same (top 5) := fun _ _ _ _ _ _ us hl => match us, hl with | [_, _], _ => rfl
theorem ck_4 : (scB f__law_simple (top 6) && isB tab glo ⟨f__law_simple.ns, defScope (top 6), fun _ => true⟩ f__law_simple.body (defBody (top 6))) = true := by decide +kernel
theorem pa_4 : plainArgs f__law_simple (top 6) := fun _ _ _ _ _ _ us hl => match us, hl with | [_], _ => rfl
theorem ck_5 : (scB f__law_thing (top 7) && isB tab glo ⟨f__law_thing.ns, defScope (top 7), fun _ => true⟩ f__law_thing.body (defBody (top 7))) = true := by decide +kernel
theorem pa_5 : plainArgs f__law_thing (top 7) := fun _ _ _ _ _ _ us hl => match us, hl with | [_, _, _], _ => rfl
theorem ck_6 : (scB f__law_places (top 8) && isB tab glo ⟨f__law_places.ns, defScope (top 8), fun _ => true⟩ f__law_places.body (defBody (top 8))) = true := by decide +kernel
theorem pa_6 : plainArgs f__law_places (top 8) := fun _ _ _ _ _ _ us hl => match us, hl with | [_], _ => rfl
theorem ck_7 : (scB f__law_set (top 9) && isB tab glo ⟨f__law_set.ns, defScope (top 9), fun _ => true⟩ f__law_set.body (defBody (top 9))) = true := by decide +kernel
theorem pa_7 : plainArgs f__law_set (top 9) := fun _ _ _ _ _ _ us hl => match us, hl with | [_, _, _], _ => rfl
theorem ck_8 : (scB f__law_beside (top 10) && isB tab glo ⟨f__law_beside.ns, defScope (top 10), fun _ => true⟩ f__law_beside.body (defBody (top 10))) = true := by decide +kernel
theorem pa_8 : plainArgs f__law_beside (top 10) := fun _ _ _ _ _ _ us hl => match us, hl with | [_, _], _ => rfl
theorem ck_9 : (scB f__law_around (top 11) && isB tab glo ⟨f__law_around.ns, defScope (top 11), fun _ => true⟩ f__law_around.body (defBody (top 11))) = true := by decide +kernel
theorem pa_9 : plainArgs f__law_around (top 11) := fun _ _ _ _ _ _ us hl => match us, hl with | [_, _], _ => rfl
theorem ck_10 : (scB f__law_anew (top 12) && isB tab glo ⟨f__law_anew.ns, defScope (top 12), fun _ => true⟩ f__law_anew.body (defBody (top 12))) = true := by decide +kernel
theorem pa_10 : plainArgs f__law_anew (top 12) := fun _ _ _ _ _ _ us hl => match us, hl with | [_], _ => rfl
theorem ck_11 : (scB f_law (top 13) && isB tab glo ⟨f_law.ns, defScope (top 13), fun _ => true⟩ f_law.body (defBody (top 13))) = true := by decide +kernel
theorem pa_11 : plainArgs f_law (top 13) := fun _ _ _ _ _ _ us hl => match us, hl with | [_], _ => rfl
theorem hyp {K : PySem.W.Frag} (d0 : defIn K "alike" (top 1)) (d1 : defIn K "_law_deck" (top 3)) (d2 : defIn K "_law_pick" (top 4)) (d3 : defIn K "_law_same" (top 5)) (d4 : defIn K "_law_simple" (top 6)) (d5 : defIn K "_law_thing" (top 7)) (d6 : defIn K "_law_places" (top 8)) (d7 : defIn K "_law_set" (top 9)) (d8 : defIn K "_law_beside" (top 10)) (d9 : defIn K "_law_around" (top 11)) (d10 : defIn K "_law_anew" (top 12)) (d11 : defIn K "law" (top 13)) : ∀ (i : Nat) (fd : FnD), tab[i]? = some fd → ∃ st, defIn K fd.nm st ∧ plainArgs fd st ∧ scB fd st = true ∧ isB tab glo ⟨fd.ns, defScope st, fun _ => true⟩ fd.body (defBody st) = true
  | 0, _, rfl => ⟨top 1, d0, pa_0, (Bool.and_eq_true_iff.mp ck_0).1, (Bool.and_eq_true_iff.mp ck_0).2⟩
  | 1, _, rfl => ⟨top 3, d1, pa_1, (Bool.and_eq_true_iff.mp ck_1).1, (Bool.and_eq_true_iff.mp ck_1).2⟩
  | 2, _, rfl => ⟨top 4, d2, pa_2, (Bool.and_eq_true_iff.mp ck_2).1, (Bool.and_eq_true_iff.mp ck_2).2⟩
  | 3, _, rfl => ⟨top 5, d3, pa_3, (Bool.and_eq_true_iff.mp ck_3).1, (Bool.and_eq_true_iff.mp ck_3).2⟩
  | 4, _, rfl => ⟨top 6, d4, pa_4, (Bool.and_eq_true_iff.mp ck_4).1, (Bool.and_eq_true_iff.mp ck_4).2⟩
  | 5, _, rfl => ⟨top 7, d5, pa_5, (Bool.and_eq_true_iff.mp ck_5).1, (Bool.and_eq_true_iff.mp ck_5).2⟩
  | 6, _, rfl => ⟨top 8, d6, pa_6, (Bool.and_eq_true_iff.mp ck_6).1, (Bool.and_eq_true_iff.mp ck_6).2⟩
  | 7, _, rfl => ⟨top 9, d7, pa_7, (Bool.and_eq_true_iff.mp ck_7).1, (Bool.and_eq_true_iff.mp ck_7).2⟩
  | 8, _, rfl => ⟨top 10, d8, pa_8, (Bool.and_eq_true_iff.mp ck_8).1, (Bool.and_eq_true_iff.mp ck_8).2⟩
  | 9, _, rfl => ⟨top 11, d9, pa_9, (Bool.and_eq_true_iff.mp ck_9).1, (Bool.and_eq_true_iff.mp ck_9).2⟩
  | 10, _, rfl => ⟨top 12, d10, pa_10, (Bool.and_eq_true_iff.mp ck_10).1, (Bool.and_eq_true_iff.mp ck_10).2⟩
  | 11, _, rfl => ⟨top 13, d11, pa_11, (Bool.and_eq_true_iff.mp ck_11).1, (Bool.and_eq_true_iff.mp ck_11).2⟩
  | _ + 12, _, h => nomatch h
theorem glob {K : PySem.W.Frag} {h : Heap} {mg : Str → Option Value} (X : K.In h) (Gn : h.Ns mainGlobals mg) (z0 : PySem.W.nsIn K mainGlobals "len" = some none) (z1 : PySem.W.nsIn K mainGlobals "int" = some none) (z2 : PySem.W.nsIn K mainGlobals "tuple" = some none) (z3 : PySem.W.nsIn K mainGlobals "list" = some none) (z4 : PySem.W.nsIn K mainGlobals "sum" = some none) (z5 : PySem.W.nsIn K mainGlobals "all" = some none) (z6 : PySem.W.nsIn K mainGlobals "any" = some none) (z7 : PySem.W.nsIn K mainGlobals "max" = some none) (z8 : PySem.W.nsIn K mainGlobals "min" = some none) (z9 : PySem.W.nsIn K mainGlobals "isinstance" = some none) (z10 : PySem.W.nsIn K mainGlobals "range" = some none) (z11 : PySem.W.nsIn K mainGlobals "zip" = some none) (z12 : PySem.W.nsIn K mainGlobals "bool" = some none) (z13 : PySem.W.nsIn K mainGlobals "str" = some none) (z14 : PySem.W.nsIn K mainGlobals "sorted" = some none) : Glo K mg glo := by
  refine ⟨fun x hx => ?_, fun i x d e => ?_⟩
  · simp only [bnames, List.mem_cons, List.not_mem_nil, or_false] at hx
    rcases hx with rfl | rfl | rfl | rfl | rfl | rfl | rfl | rfl | rfl | rfl | rfl | rfl | rfl | rfl | rfl
    · exact PySem.W.mg_none_of X Gn z0
    · exact PySem.W.mg_none_of X Gn z1
    · exact PySem.W.mg_none_of X Gn z2
    · exact PySem.W.mg_none_of X Gn z3
    · exact PySem.W.mg_none_of X Gn z4
    · exact PySem.W.mg_none_of X Gn z5
    · exact PySem.W.mg_none_of X Gn z6
    · exact PySem.W.mg_none_of X Gn z7
    · exact PySem.W.mg_none_of X Gn z8
    · exact PySem.W.mg_none_of X Gn z9
    · exact PySem.W.mg_none_of X Gn z10
    · exact PySem.W.mg_none_of X Gn z11
    · exact PySem.W.mg_none_of X Gn z12
    · exact PySem.W.mg_none_of X Gn z13
    · exact PySem.W.mg_none_of X Gn z14
  · match i, e with
    | _ + 0, e => exact nomatch e
end Lw
open PySem PySem.W PyProof.Rows
set_option maxRecDepth 100000 in
set_option maxHeartbeats 0 in
theorem PySem.Challenge.cw_packedforms_k01_alike_or_not_holds : PySem.Challenge.rw_packedforms_k01_alike_or_not.Holds := by
  w_on; o_law; k_head; (case hw => w_witness2)
  k_fill
  refine Pv.law_walk (l := PySem.Challenge.rw_packedforms_k01_alike_or_not) (T := Lw.tab) (G := Lw.glo) (N := 289) (li := 11) (fd := Lw.f_law) rfl rfl ⟨rfl, by decide, by decide⟩ rfl rfl rfl (fun w h Y => PySem.W.kIn_of Y) ?F Lw.main
  case F =>
    intro w mg h KX G
    refine' ⟨Pv.tab_of KX G (Lw.hyp ?dq0 ?dq1 ?dq2 ?dq3 ?dq4 ?dq5 ?dq6 ?dq7 ?dq8 ?dq9 ?dq10 ?dq11), Lw.glob KX G ?zq0 ?zq1 ?zq2 ?zq3 ?zq4 ?zq5 ?zq6 ?zq7 ?zq8 ?zq9 ?zq10 ?zq11 ?zq12 ?zq13 ?zq14 ⟩
    case dq0 => refine' Pv.defIn_mk ?a ?l ?c ?k; (case a => k_is); (case l => k_is); (case c => k_is); (case k => k_is)
    case dq1 => refine' Pv.defIn_mk ?a ?l ?c ?k; (case a => k_is); (case l => k_is); (case c => k_is); (case k => k_is)
    case dq2 => refine' Pv.defIn_mk ?a ?l ?c ?k; (case a => k_is); (case l => k_is); (case c => k_is); (case k => k_is)
    case dq3 => refine' Pv.defIn_mk ?a ?l ?c ?k; (case a => k_is); (case l => k_is); (case c => k_is); (case k => k_is)
    case dq4 => refine' Pv.defIn_mk ?a ?l ?c ?k; (case a => k_is); (case l => k_is); (case c => k_is); (case k => k_is)
    case dq5 => refine' Pv.defIn_mk ?a ?l ?c ?k; (case a => k_is); (case l => k_is); (case c => k_is); (case k => k_is)
    case dq6 => refine' Pv.defIn_mk ?a ?l ?c ?k; (case a => k_is); (case l => k_is); (case c => k_is); (case k => k_is)
    case dq7 => refine' Pv.defIn_mk ?a ?l ?c ?k; (case a => k_is); (case l => k_is); (case c => k_is); (case k => k_is)
    case dq8 => refine' Pv.defIn_mk ?a ?l ?c ?k; (case a => k_is); (case l => k_is); (case c => k_is); (case k => k_is)
    case dq9 => refine' Pv.defIn_mk ?a ?l ?c ?k; (case a => k_is); (case l => k_is); (case c => k_is); (case k => k_is)
    case dq10 => refine' Pv.defIn_mk ?a ?l ?c ?k; (case a => k_is); (case l => k_is); (case c => k_is); (case k => k_is)
    case dq11 => refine' Pv.defIn_mk ?a ?l ?c ?k; (case a => k_is); (case l => k_is); (case c => k_is); (case k => k_is)
    case zq0 => k_is
    case zq1 => k_is
    case zq2 => k_is
    case zq3 => k_is
    case zq4 => k_is
    case zq5 => k_is
    case zq6 => k_is
    case zq7 => k_is
    case zq8 => k_is
    case zq9 => k_is
    case zq10 => k_is
    case zq11 => k_is
    case zq12 => k_is
    case zq13 => k_is
    case zq14 => k_is

