import PyProof.Rows.All
import OpenK.AllK
import HandS.ForExc
import HandS.ForMost
import HandS.Deep
import HandS.TupAny
import HandS.Conv
import HandS.SortInts
import HandS.Gcd
import HandS.Zip
import HandS.Style
import HandS.IsInst
import HandS.RevRange
import HandS.Rev
import HandS.Flow
import HandS.TupMul
import KE.KTupSum
import KE.DataMinMax
import HandS.SortKw
import KE.KMathGC
import KE.DataAny
import KE.KDictZip
import PyProof.ListTruth
import KE.GoesMore
import HandS.SetBool
import HandS.Strs
import HandS.Exc
import HandS.ExcOwn
import HandS.ExcIs
import HandS.TryOnly
import HandS.WordsExc
import PySem.Challenge.RW_withinage_k88_whole_offsets
set_option Elab.async false
set_option linter.all false
set_option maxRecDepth 100000
set_option maxHeartbeats 8000000
namespace Wi
open PySem
abbrev D := PyData
/-- a result: a value, or a new list that nobody else holds -/
inductive RV where
  | v (d : D)
  | l (ds : List D)
def RV.d : RV → D
  | .v d => d
  | .l ds => .list ds
/-- a slot: empty, a value, a list of one's own -/
inductive Sl where
  | no
  | v (d : D)
  | own (ds : List D)
abbrev En := List Sl
def LIM : Nat := 10000000
/-- a list that may be read by place and by its length alone (the script) -/
def fz (ds : List D) : D := .dict [(.list ds, .none)]

inductive O2 where
  | add | sub | mul | fdiv | mod | pow
  deriving DecidableEq
inductive Cm where
  | eq | ne | lt | le | gt | ge | is_ | isnt | inn | nin
  deriving DecidableEq
inductive B where
  | len | tuple | list | sum | mn | mx | mxd | all | any | sorted | abs | int | divmod | gcd | lcm | bool | mnd | lrg | trg | idx | cnt | trev | tzip
  deriving DecidableEq
/-- what a type test asks -/
inductive Ty where
  | int | bool | tuple | list | str
  deriving DecidableEq
/-- a target -/
inductive Tg where
  | n (i : Nat)
  | t (ts : List Tg)
/-- what is walked -/
inductive SK where
  | val | rng | enum | zip | rev | ez | er
  deriving DecidableEq
inductive E where
  | var (i : Nat)
  | lit (d : D)
  | bin (o : O2) (a b : E)
  | neg (a : E)
  | cmp (o : Cm) (a b : E)
  | chn (o p : Cm) (a b c : E)
  | and (a b : E)
  | or (a b : E)
  | not (a : E)
  | ife (c a b : E)
  | tup (es : List E)
  | lst (es : List E)
  | ix (a i : E)
  | sl (a : E) (lo hi : Option E)
  | rev (a : E)
  | call (f : Nat) (es : List E)
  | bi (f : B) (es : List E)
  | isi (a : E) (t : Ty)
  | comp (elt : E) (t : Tg) (k : SK) (src : List E) (vars : List Nat) (cond : Option E)
  | comp2 (elt : E) (t : Tg) (k : SK) (src : List E) (t1 : Tg) (e1 : E) (vars vars1 : List Nat)
  | slen (elt : E) (t : Tg) (k : SK) (src : List E) (vars : List Nat)
  | att (k : Str) (a : E) (f : Str)
  | meth (k m : Str) (j : Nat) (a : E) (es : List E)
  | new (k : Str) (ns : List Str) (j : Nat) (es : List E)
inductive S where
  | asg (i : Nat) (e : E)
  | unp (t : List Tg) (e : E)
  | par (is : List Nat) (es : List E)
  | aug (i : Nat) (o : O2) (e : E)
  | app (i : Nat) (e : E)
  | ext (i : Nat) (e : E)
  | seti (i : Nat) (ix e : E)
  | augi (i : Nat) (ix : E) (o : O2) (e : E)
  | ret (e : E)
  | ite (c : E) (a b : List S)
  | whl (c : E) (b : List S)
  | for_ (t : Tg) (k : SK) (src : List E) (b : List S)
  | brk | cnt | pas
  | ex (e : E)
  | nev
  | zap (p i : Nat) (elt : E) (t : Tg) (src : List E) (vars : List Nat)

def mulOk (i j : Int) : Bool := decide (-(2 ^ 64) < i ∧ i < 2 ^ 64) || decide (-(2 ^ 64) < j ∧ j < 2 ^ 64)
def addD : D → D → Option RV
  | .int i, .int j => some (.v (.int (i + j)))
  | .tuple xs, .tuple ys => if xs.length + ys.length ≤ LIM then some (.v (.tuple (xs ++ ys))) else none
  | .list xs, .list ys => if xs.length + ys.length ≤ LIM then some (.l (xs ++ ys)) else none
  | _, _ => none
def mulD : D → D → Option RV
  | .int i, .int j => if mulOk i j = true then some (.v (.int (i * j))) else none
  | .list xs, .int k => if k.natAbs ≤ LIM ∧ xs.length * k.toNat ≤ LIM then some (.l (List.replicate k.toNat xs).flatten) else none
  | .tuple xs, .int k => if xs ≠ [] ∧ -1000 ≤ k ∧ k ≤ 1000 ∧ xs.length ≤ 1000 then some (.v (.tuple (List.replicate k.toNat xs).flatten)) else none
  | _, _ => none
def intD (f : Int → Int → Option RV) : D → D → Option RV
  | .int i, .int j => f i j
  | _, _ => none
def o2 : O2 → D → D → Option RV
  | .add => addD
  | .sub => intD fun i j => some (.v (.int (i - j)))
  | .mul => mulD
  | .fdiv => intD fun i j => if 0 < j ∧ j < 1073741824 then some (.v (.int (i / j))) else none
  | .mod => intD fun i j => if 0 < j then some (.v (.int (i % j))) else none
  | .pow => intD fun i j => if 0 ≤ j ∧ j ≤ 1000000 ∧ i.natAbs < 2 ^ 64 then some (.v (.int (i ^ j.toNat))) else none
def isN : D → Bool
  | .none => true
  | _ => false
def cmI (f : Int → Int → Bool) : D → D → Option Bool
  | .int i, .int j => some (f i j)
  | _, _ => none
def eqD (a b : D) : Option Bool := if SeqAt.shaped a = true ∧ SeqAt.shaped b = true then some (PyData.eqv a b) else none
def inD (a : D) : D → Option Bool
  | .list xs => if SeqAt.shaped a = true ∧ SeqAt.shaped (.list xs) = true then some (xs.any fun z => PyData.eqv z a) else none
  | .tuple xs => if SeqAt.shaped a = true ∧ SeqAt.shaped (.tuple xs) = true then some (xs.any fun z => PyData.eqv z a) else none
  | _ => none
def isB : D → Bool → Option Bool
  | .bool j, k => some (decide (j = k))
  | _, _ => none
def isD (a b : D) : Option Bool := match b with
  | .none => some (isN a)
  | .bool k => isB a k
  | _ => none
def cm : Cm → D → D → Option Bool
  | .eq => eqD
  | .ne => fun a b => (eqD a b).map fun k => !k
  | .lt => cmI fun i j => decide (i < j)
  | .le => cmI fun i j => decide (i ≤ j)
  | .gt => cmI fun i j => decide (j < i)
  | .ge => cmI fun i j => decide (j ≤ i)
  | .is_ => isD
  | .isnt => fun a b => (isD a b).map fun k => !k
  | .inn => inD
  | .nin => fun a b => (inD a b).map fun k => !k
def truth : D → Option Bool
  | .none => some false
  | .bool b => some b
  | .int i => some (i != 0)
  | .list xs => some (!xs.isEmpty)
  | .tuple xs => some (!xs.isEmpty)
  | _ => none
def tyOf : D → Option Ty
  | .int _ => some .int
  | .bool _ => some .bool
  | .tuple _ => some .tuple
  | .list _ => some .list
  | .str _ => some .str
  | _ => none
def isTy (t : Ty) (d : D) : Option Bool := match d with
  | .dict _ => none
  | d => some (decide (tyOf d = some t) || (decide (t = .int) && decide (tyOf d = some .bool)))
/-- the place of an index -/
def plc (n : Nat) (i : Int) : Option Nat := if 0 ≤ i then (if i < n then some i.toNat else none) else if -(n : Int) ≤ i then some (i + n).toNat else none
def item : D → D → Option D
  | .list xs, .int i => (plc xs.length i).bind fun k => xs[k]?
  | .tuple xs, .int i => (plc xs.length i).bind fun k => xs[k]?
  | .dict [(.list xs, .none)], .int i => (plc xs.length i).bind fun k => xs[k]?
  | _, _ => none
/-- an instance of the class k, its attributes -/
def insD (k : Str) (ns : List Str) (ds : List D) : D := .dict [(.tuple (.str k :: ns.map .str), .tuple ds)]
def atF (f : Str) : List D → List D → Option D
  | .str n :: ns, d :: ds => if n = f then some d else atF f ns ds
  | _, _ => none
def attD (k f : Str) : D → Option D
  | .dict [(.tuple (.str k' :: ns), .tuple ds)] => if k' = k then atF f ns ds else none
  | _ => none
def notN (m : Str) : D → Bool
  | .str n => !decide (n = m)
  | _ => false
def insOk (k m : Str) : D → Bool
  | .dict [(.tuple (.str k' :: ns), .tuple _)] => decide (k' = k) && ns.all (notN m)
  | _ => false
/-- a bound of a slice -/
def bnd (n : Nat) (i : Int) : Nat := if i < 0 then (i + n).toNat else min i.toNat n
def cut (xs : List D) (lo hi : Option Int) : List D :=
  let a := match lo with | none => 0 | some i => bnd xs.length i
  let b := match hi with | none => xs.length | some i => bnd xs.length i
  (xs.drop a).take (b - a)
def optI : D → Option (Option Int)
  | .int i => some (some i)
  | _ => none
def slice : D → Option Int → Option Int → Option RV
  | .list xs, lo, hi => some (.l (cut xs lo hi))
  | .tuple xs, lo, hi => some (.v (.tuple (cut xs lo hi)))
  | _, _, _ => none
def intsD : List D → Option (List Int)
  | [] => some []
  | .int i :: r => (intsD r).map (i :: ·)
  | _ => none
def boolsD : List D → Option (List Bool)
  | [] => some []
  | .bool i :: r => (boolsD r).map (i :: ·)
  | _ => none
/-- the items of a list or a tuple -/
def items : D → Option (List D)
  | .list xs => some xs
  | .tuple xs => some xs
  | _ => none
def mxI : List Int → Int
  | [] => 0
  | x :: r => r.foldl max x
def mnI : List Int → Int
  | [] => 0
  | x :: r => r.foldl min x
def srtI (xs : List Int) : List Int := xs.mergeSort (fun a b => decide (a ≤ b))
def itF (f : List D → Option RV) : List D → Option RV
  | [d] => (items d).bind f
  | _ => none
def inF (f : List Int → Option RV) : List D → Option RV := itF fun xs => (intsD xs).bind f
def lenF : List D → Option RV
  | [.dict [(.list xs, .none)]] => some (.v (.int xs.length))
  | [d] => (items d).map fun xs => .v (.int xs.length)
  | _ => none
def boF (f : List Bool → Bool) : List D → Option RV
  | [.list xs] => (boolsD xs).map fun bs => .v (.bool (f bs))
  | _ => none
def lensD : List D → Option (List Nat)
  | [] => some []
  | .list xs :: r => (lensD r).map (xs.length :: ·)
  | _ => none
def lsF (f : List Nat → Bool) : List D → Option RV
  | [.list xs] => (lensD xs).map fun ns => .v (.bool (f ns))
  | _ => none
def i1F (f : Int → D) : List D → Option RV
  | [.int i] => some (.v (f i))
  | _ => none
def i2F (f : Int → Int → Option RV) : List D → Option RV
  | [.int i, .int j] => f i j
  | _ => none
def orF (f g : List D → Option RV) (ds : List D) : Option RV := match f ds with
  | some r => some r
  | none => g ds
def intF : List D → Option RV
  | [.int i] => some (.v (.int i))
  | [.bool k] => some (.v (.int (if k = true then 1 else 0)))
  | _ => none
def dfF (f : List Int → Int) : List D → Option RV
  | [d, x] => (items d).bind fun xs => (intsD xs).bind fun ns => if ns = [] then (match x with
    | .int i => some (.v (.int i))
    | .none => some (.v .none)
    | _ => none) else some (.v (.int (f ns)))
  | _ => none
/-- lo, lo + 1, .. -/
def rg (lo : Int) (n : Nat) : List D := (List.range n).map fun (k : Nat) => PyData.int (lo + (k : Int))
def rgc (lo c : Int) (n : Nat) : List D := (List.range n).map fun (k : Nat) => PyData.int (lo + (k : Int) * c)
def rgn (i j k : Int) : Nat := (if i < j then (j - i - 1) / k + 1 else 0).toNat
def lrgF : List D → Option (List D)
  | [.int j] => if j.natAbs < 2 ^ 62 ∧ j.toNat ≤ LIM then some (rg 0 j.toNat) else none
  | [.int i, .int j] => if i.natAbs < 2 ^ 62 ∧ j.natAbs < 2 ^ 62 ∧ (j - i).toNat ≤ LIM then some (rg i (j - i).toNat) else none
  | [.int i, .int j, .int k] => if (i.natAbs < 1099511627776 ∧ j.natAbs < 1099511627776) ∧ 0 < k ∧ k < 1073741824 ∧ rgn i j k ≤ LIM then some (rgc i k (rgn i j k)) else none
  | _ => none
def flatD : D → Bool
  | .none => true
  | .bool _ => true
  | .int _ => true
  | .str _ => true
  | _ => false
def fdx (d : D) : List D → Option Nat
  | [] => none
  | x :: r => if PyData.eqv x d = true then some 0 else (fdx d r).map (· + 1)
def idxF : List D → Option RV
  | [.list xs, d] => if flatD d = true ∧ xs.all flatD = true then (fdx d xs).map fun (k : Nat) => .v (.int (k : Int)) else none
  | _ => none
def cntF : List D → Option RV
  | [.list xs, d] => if flatD d = true ∧ xs.all flatD = true then some (.v (.int ((xs.countP fun z => PyData.eqv z d : Nat) : Int))) else none
  | _ => none
/-- pairs of numbers -/
def prsD : List D → Option (List (Int × Int))
  | [] => some []
  | .tuple [.int i, .int j] :: r => (prsD r).map ((i, j) :: ·)
  | _ => none
def leP (a b : Int × Int) : Bool := decide (a.1 < b.1 ∨ (a.1 = b.1 ∧ a.2 ≤ b.2))
def srtP (ps : List (Int × Int)) : List (Int × Int) := ps.mergeSort leP
def pqD (p : Int × Int) : D := .tuple [.int p.1, .int p.2]
def prF : List D → Option RV
  | [.list xs] => (prsD xs).map fun ps => .l ((srtP ps).map pqD)
  | _ => none
/-- tuple(reversed(xs)) -/
def trevF : List D → Option RV
  | [.list xs] => some (.v (.tuple xs.reverse))
  | _ => none
/-- tuple(zip(xs, ys)), of numbers -/
def tzipF : List D → Option RV
  | [.tuple xs, .tuple ys] => (intsD xs).bind fun ns => (intsD ys).map fun ms => .v (.tuple ((ns.zip ms).map pqD))
  | _ => none
def bF : B → List D → Option RV
  | .len => lenF
  | .tuple => itF fun xs => some (.v (.tuple xs))
  | .list => itF fun xs => some (.l xs)
  | .sum => inF fun ns => some (.v (.int ns.sum))
  | .mx => orF (i2F fun i j => some (.v (.int (max i j)))) (inF fun ns => if ns = [] then none else some (.v (.int (mxI ns))))
  | .mn => orF (i2F fun i j => some (.v (.int (min i j)))) (inF fun ns => if ns = [] then none else some (.v (.int (mnI ns))))
  | .mxd => dfF mxI
  | .mnd => dfF mnI
  | .lrg => fun ds => (lrgF ds).map .l
  | .trg => fun ds => (lrgF ds).map fun xs => .v (.tuple xs)
  | .idx => idxF
  | .all => orF (boF fun bs => bs.all id) (lsF fun ns => ns.all fun n => n != 0)
  | .any => boF fun bs => bs.any id
  | .sorted => orF (inF fun ns => some (.l ((srtI ns).map .int))) prF
  | .cnt => cntF
  | .abs => i1F fun i => .int (if i < 0 then -i else i)
  | .int => intF
  | .divmod => i2F fun i j => if 0 < j ∧ j < 1073741824 then some (.v (.tuple [.int (i / j), .int (i % j)])) else none
  | .gcd => i2F fun i j => some (.v (.int (Nat.gcd i.natAbs j.natAbs : Nat)))
  | .lcm => i2F fun i j => if i.natAbs < 2 ^ 62 ∧ j.natAbs < 2 ^ 62 then some (.v (.int (Nat.lcm i.natAbs j.natAbs : Nat))) else none
  | .bool => fun _ => none
  | .trev => trevF
  | .tzip => tzipF
def valS : List D → Option (List D)
  | [d] => items d
  | _ => none
def rngS : List D → Option (List D)
  | [.int j] => if j.natAbs < 2 ^ 62 then some (rg 0 j.toNat) else none
  | [.int i, .int j] => if i.natAbs < 2 ^ 62 ∧ j.natAbs < 2 ^ 62 then some (rg i (j - i).toNat) else none
  | [.int i, .int j, .int k] => if (i.natAbs < 1099511627776 ∧ j.natAbs < 1099511627776) ∧ 0 < k ∧ k < 1073741824 then some (rgc i k (rgn i j k)) else none
  | _ => none
def enumS : List D → Option (List D)
  | [.list xs] => some (xs.zipIdx.map fun p => .tuple [.int (p.2 : Nat), p.1])
  | [.tuple xs] => some (xs.zipIdx.map fun p => .tuple [.int (p.2 : Nat), p.1])
  | _ => none
def zipS : List D → Option (List D)
  | [.list xs, .list ys] => some ((xs.zip ys).map fun p => .tuple [p.1, p.2])
  | [.tuple xs, .tuple ys] => some ((xs.zip ys).map fun p => .tuple [p.1, p.2])
  | [.tuple xs, .list ys] => some ((xs.zip ys).map fun p => .tuple [p.1, p.2])
  | _ => none
/-- a zip that a name holds -/
def zipV : List D → Option (List D)
  | [.list xs, .list ys] => some ((xs.zip ys).map fun p => .tuple [p.1, p.2])
  | [.tuple xs, .list ys] => some ((xs.zip ys).map fun p => .tuple [p.1, p.2])
  | _ => none
/-- each item with its number -/
def nums (xs : List D) : List D := xs.zipIdx.map fun p => .tuple [.int (p.2 : Nat), p.1]
def ezS : List D → Option (List D)
  | [.list xs, .list ys] => some (nums ((xs.zip ys).map fun p => .tuple [p.1, p.2]))
  | _ => none
def erS : List D → Option (List D)
  | [.list xs] => some (nums xs.reverse)
  | _ => none
def revS : List D → Option (List D)
  | [d] => (items d).map List.reverse
  | _ => none
def srcs : SK → List D → Option (List D)
  | .val => valS
  | .rng => rngS
  | .enum => enumS
  | .zip => zipS
  | .rev => revS
  | .ez => ezS
  | .er => erS

mutual
def bind : Tg → D → En → Option En
  | .n i, d, env => some (env.set i (.v d))
  | .t ts, .tuple ds, env => binds ts ds env
  | .t _, _, _ => none
def binds : List Tg → List D → En → Option En
  | [], [], env => some env
  | t :: ts, d :: ds, env => (bind t d env).bind (binds ts ds)
  | _, _, _ => none
end
def wipeE (env : En) : List Nat → En
  | [] => env
  | v :: vs => (wipeE env vs).set v .no
mutual
def tgSlots : Tg → List Nat
  | .n i => [i]
  | .t ts => tgSlotss ts
def tgSlotss : List Tg → List Nat
  | [] => []
  | x :: xs => tgSlots x ++ tgSlotss xs
end
mutual
def noL : D → Bool
  | .list _ => false
  | .dict _ => false
  | .tuple xs => noLs xs
  | _ => true
def noLs : List D → Bool
  | [] => true
  | x :: xs => noL x && noLs xs
end
def RV.noL : RV → Bool
  | .v d => Wi.noL d
  | .l ds => noLs ds
/-- the lists at these slots are no longer one's own -/
def demote (env : En) : List Nat → En
  | [] => env
  | i :: r => match env[i]? with
    | some (.own ds) => demote (env.set i (.v (.list ds))) r
    | _ => demote env r
def RV.sl : RV → Sl
  | .v d => .v d
  | .l ds => .own ds
/-- behind the use of a value read from the slots lk -/
def after (r : RV) (lk : List Nat) (env : En) : En :=
  match lk with
  | [] => env
  | _ => if r.noL = true then env else demote env lk

mutual
def lkE : E → List Nat
  | .var i => [i]
  | .lit _ => []
  | .bin _ a b => lkC a ++ lkC b
  | .neg _ => []
  | .cmp .. => []
  | .chn .. => []
  | .and _ b => lkE b
  | .or _ b => lkE b
  | .not _ => []
  | .ife _ a b => lkE a ++ lkE b
  | .tup es => lkEs es
  | .lst es => lkEs es
  | .ix a _ => lkC a
  | .sl a _ _ => lkC a
  | .rev a => lkC a
  | .call _ es => lkEs es
  | .bi _ es => lkCs es
  | .isi .. => []
  | .comp elt _ _ src _ _ => lkCs src ++ lkE elt
  | .comp2 elt _ _ src _ _ _ _ => lkCs src ++ lkE elt
  | .slen .. => []
  | .att _ a _ => lkC a
  | .meth _ _ _ a es => lkE a ++ lkEs es
  | .new _ _ _ es => lkEs es
def lkEs : List E → List Nat
  | [] => []
  | e :: es => lkE e ++ lkEs es
/-- .. of what is only looked into -/
def lkC : E → List Nat
  | .var _ => []
  | .bin o a b => lkC a ++ lkC b
  | .lit _ => []
  | .neg _ => []
  | .cmp .. => []
  | .chn .. => []
  | .and _ b => lkE b
  | .or _ b => lkE b
  | .not _ => []
  | .ife _ a b => lkE a ++ lkE b
  | .tup es => lkEs es
  | .lst es => lkEs es
  | .ix a _ => lkC a
  | .sl a _ _ => lkC a
  | .rev a => lkC a
  | .call _ es => lkEs es
  | .bi _ es => lkCs es
  | .isi .. => []
  | .comp elt _ _ src _ _ => lkCs src ++ lkE elt
  | .comp2 elt _ _ src _ _ _ _ => lkCs src ++ lkE elt
  | .slen .. => []
  | .att _ a _ => lkC a
  | .meth _ _ _ a es => lkE a ++ lkEs es
  | .new _ _ _ es => lkEs es
def lkCs : List E → List Nat
  | [] => []
  | e :: es => lkC e ++ lkCs es
end

abbrev FE := Nat → List D → Option RV
def rdv (env : En) (i : Nat) : Option RV :=
  match env[i]? with
  | some (.v d) => some (.v d)
  | some (.own ds) => some (.v (.list ds))
  | _ => none
def bl? : RV → Option Bool
  | .v (.bool b) => some b
  | _ => none
/-- the items of a comprehension -/
def compL (f : D → Option (Option D)) : List D → Option (List D)
  | [] => some []
  | x :: r => (f x).bind fun o => (compL f r).map fun ys => match o with
    | none => ys
    | some y => y :: ys
/-- .. of one within another -/
def catL (f : D → Option (List D)) : List D → Option (List D)
  | [] => some []
  | x :: r => (f x).bind fun ys => (catL f r).map (ys ++ ·)
/-- the different ones, each where it is met first -/
def dist (ns : List Int) : List Int := ns.foldl (fun acc x => if x ∈ acc then acc else acc ++ [x]) []
section
variable (F : FE)
mutual
def dnE : E → En → Option RV
  | .var i, env => rdv env i
  | .lit d, _ => some (.v d)
  | .bin o a b, env => (dnE a env).bind fun x => (dnE b env).bind fun y => o2 o x.d y.d
  | .neg a, env => (dnE a env).bind fun x => match x with
    | .v (.int i) => some (.v (.int (-i)))
    | _ => none
  | .cmp o a b, env => (dnE a env).bind fun x => (dnE b env).bind fun y => (cm o x.d y.d).map fun c => .v (.bool c)
  | .chn o p a b c, env => (dnE a env).bind fun x => (dnE b env).bind fun y => (cm o x.d y.d).bind fun k =>
      if k = true then (dnE c env).bind fun z => (cm p y.d z.d).map fun c => .v (.bool c) else some (.v (.bool false))
  | .and a b, env => (dnE a env).bind fun x => (bl? x).bind fun k => if k = true then dnE b env else some (.v (.bool false))
  | .or a b, env => (dnE a env).bind fun x => (bl? x).bind fun k => if k = true then some (.v (.bool true)) else dnE b env
  | .not a, env => (dnE a env).bind fun x => (truth x.d).map fun k => .v (.bool (!k))
  | .ife c a b, env => (dnT c env).bind fun k => if k = true then dnE a env else dnE b env
  | .tup es, env => (dnEs es env).map fun ds => .v (.tuple ds)
  | .lst es, env => (dnEs es env).map fun ds => .l ds
  | .ix a i, env => (dnE a env).bind fun x => (dnE i env).bind fun y => (item x.d y.d).map .v
  | .sl a lo hi, env => (dnE a env).bind fun x => (match lo with | none => some none | some e => (dnE e env).bind fun y => optI y.d).bind fun l =>
      (match hi with | none => some none | some e => (dnE e env).bind fun y => optI y.d).bind fun h => slice x.d l h
  | .rev a, env => (dnE a env).bind fun x => match x.d with
    | .list xs => some (.l xs.reverse)
    | .tuple xs => some (.v (.tuple xs.reverse))
    | _ => none
  | .call f es, env => (dnEs es env).bind fun ds => F f ds
  | .bi f es, env => (dnEs es env).bind fun ds => bF f ds
  | .isi a t, env => (dnE a env).bind fun x => (isTy t x.d).map fun c => .v (.bool c)
  | .comp elt t k src vars cond, env => (dnEs src env).bind fun ds => (srcs k ds).bind fun its =>
      if its.length ≤ LIM then (compL (fun x => (bind t x (wipeE (demote env (lkCs src)) vars)).bind fun e2 =>
        (match cond with | none => some true | some c => dnT c e2).bind fun k => if k = true then (dnE elt e2).map fun (y : RV) => some y.d else some none) its).map .l
      else none
  | .comp2 elt t k src t1 e1 vars vars1, env => (dnEs src env).bind fun ds => (srcs k ds).bind fun its =>
      if its.length ≤ LIM then (catL (fun x => (bind t x (wipeE (demote env (lkCs src)) vars)).bind fun e2 => (dnE e1 e2).bind fun z => (rngS [z.d]).bind fun its1 =>
        if its1.length ≤ LIM then compL (fun y => (bind t1 y (wipeE e2 vars1)).bind fun e3 => (dnE elt e3).map fun (y : RV) => some y.d) its1 else none) its).bind fun fin => if fin.length ≤ LIM then some (.l fin) else none
      else none
  | .slen elt t k src vars, env => (dnEs src env).bind fun ds => (srcs k ds).bind fun its =>
      if its.length < 100000 then (compL (fun x => (bind t x (wipeE (demote env (lkCs src)) vars)).bind fun e2 => (dnE elt e2).map fun (y : RV) => some y.d) its).bind fun ys => (intsD ys).bind fun ns => if (dist ns).length ≤ 4000 then some (.v (.int (dist ns).length)) else none
      else none
  | .att k a f, env => (dnE a env).bind fun x => (attD k f x.d).map .v
  | .meth k m j a es, env => (dnE a env).bind fun x => if insOk k m x.d = true then (dnEs es env).bind fun ds => F j (x.d :: ds) else none
  | .new k ns j es, env => (F j []).bind fun _ => (dnEs es env).bind fun ds => if ds.length = ns.length then some (.v (insD k ns ds)) else none
def dnEs : List E → En → Option (List D)
  | [], _ => some []
  | e :: es, env => (dnE e env).bind fun x => (dnEs es env).map fun xs => x.d :: xs
def dnT : E → En → Option Bool
  | .and a b, env => (dnT a env).bind fun k => if k = true then dnT b env else some false
  | .or a b, env => (dnT a env).bind fun k => if k = true then some true else dnT b env
  | .not a, env => (dnT a env).map fun k => !k
  | .var i, env => (rdv env i).bind fun x => truth x.d
  | .lit d, _ => truth d
  | .cmp o a b, env => (dnE a env).bind fun x => (dnE b env).bind fun y => cm o x.d y.d
  | .chn o p a b c, env => (dnE a env).bind fun x => (dnE b env).bind fun y => (cm o x.d y.d).bind fun k =>
      if k = true then (dnE c env).bind fun z => cm p y.d z.d else some false
  | .call f es, env => (dnEs es env).bind fun ds => (F f ds).bind fun r => truth r.d
  | .bi f es, env => (dnEs es env).bind fun ds => (bF f ds).bind fun r => truth r.d
  | .isi a t, env => (dnE a env).bind fun x => isTy t x.d
  | .ix a i, env => (dnE a env).bind fun x => (dnE i env).bind fun y => (item x.d y.d).bind truth
  | .bin o a b, env => (dnE a env).bind fun x => (dnE b env).bind fun y => (o2 o x.d y.d).bind fun r => truth r.d
  | .att k a f, env => (dnE a env).bind fun x => (attD k f x.d).bind truth
  | .meth k m j a es, env => (dnE a env).bind fun x => if insOk k m x.d = true then (dnEs es env).bind fun ds => (F j (x.d :: ds)).bind fun r => truth r.d else none
  | _, _ => none
end
end

inductive Res where
  | nx (env : En)
  | rt (r : RV)
  | bk (env : En)
  | ct (env : En)
/-- what a loop may turn -/
def WF : Nat := 1000000000000
def forL (f : D → En → Option Res) : List D → En → Option Res
  | [], env => some (.nx env)
  | x :: r, env => (f x env).bind fun q => match q with
    | .nx e => forL f r e
    | .ct e => forL f r e
    | .bk e => some (.nx e)
    | .rt v => some (.rt v)
def whlL (c : En → Option Bool) (f : En → Option Res) : Nat → En → Option Res
  | 0, _ => none
  | n + 1, env => (c env).bind fun k => if k = true then (f env).bind fun q => match q with
      | .nx e => whlL c f n e
      | .ct e => whlL c f n e
      | .bk e => some (.nx e)
      | .rt v => some (.rt v)
    else some (.nx env)
def retR (e : E) (env : En) (r : RV) : RV :=
  match e with
  | .var i => match env[i]? with
    | some (.own ds) => .l ds
    | _ => r
  | _ => r
section
variable (F : FE)
mutual
def dnS : S → En → Option Res
  | .asg i e, env => (dnE F e env).map fun r => .nx ((after r (lkE e) env).set i r.sl)
  | .unp ts e, env => (dnE F e env).bind fun r => match r.d with
    | .tuple ds => (binds ts ds (after r (lkC e) env)).map .nx
    | _ => none
  | .par is es, env => (dnEs F es env).bind fun ds => (binds (is.map .n) ds (after (.l ds) (lkEs es) env)).map .nx
  | .aug i o e, env => (rdv env i).bind fun x => (dnE F e env).bind fun y => match x.d, y.d with
    | .int a, .int b => (o2 o (.int a) (.int b)).map fun r => .nx (env.set i r.sl)
    | _, _ => none
  | .app i e, env => (dnE F e env).bind fun r => match (after r (lkE e) env)[i]? with
    | some (.own ds) => if ds.length < LIM then some (.nx ((after r (lkE e) env).set i (.own (ds ++ [r.d])))) else none
    | _ => none
  | .ext i e, env => (dnE F e env).bind fun r => match (demote env (lkC e))[i]?, r.d with
    | some (.own ds), .list xs => if ds.length + xs.length ≤ LIM then some (.nx ((demote env (lkC e)).set i (.own (ds ++ xs)))) else none
    | _, _ => none
  | .seti i j e, env => (dnE F e env).bind fun r => (dnE F j env).bind fun k => match (after r (lkE e) env)[i]?, k.d with
    | some (.own ds), .int k => (plc ds.length k).map fun q => .nx ((after r (lkE e) env).set i (.own (ds.set q r.d)))
    | _, _ => none
  | .augi i j o e, env => (dnE F j env).bind fun k => match env[i]?, k.d with
    | some (.own ds), .int k => (plc ds.length k).bind fun q => match ds[q]? with
      | some (.int a) => (dnE F e env).bind fun y => match y.d with
        | .int b => (o2 o (.int a) (.int b)).map fun r => .nx (env.set i (.own (ds.set q r.d)))
        | _ => none
      | _ => none
    | _, _ => none
  | .ret e, env => (dnE F e env).map fun r => .rt (retR e env r)
  | .ite c a b, env => (dnT F c env).bind fun k => if k = true then dnSs a env else dnSs b env
  | .whl c b, env => whlL (dnT F c) (dnSs b) WF env
  | .for_ t k src b, env => (dnEs F src env).bind fun ds => (srcs k ds).bind fun its =>
      forL (fun x e => (bind t x e).bind (dnSs b)) its (demote env (lkEs src))
  | .brk, env => some (.bk env)
  | .cnt, env => some (.ct env)
  | .pas, env => some (.nx env)
  | .ex e, env => (dnE F e env).map fun _ => .nx env
  | .nev, _ => none
  | .zap p i elt t src vars, env => (dnEs F src env).bind fun ds => (zipV ds).bind fun its => if its.length ≤ LIM ∧ p ≠ i then
      (compL (fun x => (bind t x (wipeE (env.set p .no) vars)).bind fun e2 => (dnE F elt e2).map fun (y : RV) => some y.d) its).bind fun ys => (bF .mn [.list ys]).bind fun r => match r, (env.set p .no)[i]? with
        | .v (.int m), some (.own es) => if es.length < LIM then some (.nx ((env.set p .no).set i (.own (es ++ [.int m])))) else none
        | _, _ => none
      else none
def dnSs : List S → En → Option Res
  | [], env => some (.nx env)
  | s :: r, env => (dnS s env).bind fun q => match q with
    | .nx e => dnSs r e
    | o => some o
end
end
/-- a def: its number of slots, its body -/
structure Df where
  n : Nat
  body : List S
def start (n : Nat) (ds : List D) : En := ds.map .v ++ List.replicate (n - ds.length) .no
def callD (F : FE) (d : Df) (ds : List D) : Option RV :=
  (dnSs F d.body (start d.n ds)).bind fun q => match q with
    | .nx _ => some (.v .none)
    | .rt r => some r
    | _ => none
/-- the program: its defs by number; calls up to a depth -/
def run (P : List Df) : Nat → FE
  | 0, _, _ => none
  | n + 1, i, ds => (P[i]?).bind fun d => callD (run P n) d ds
end Wi

namespace Wi
open PySem PySem.Spec PyProof.Rows L2

abbrev Sg := L2.St
theorem lim_le : LIM ≤ sizeLine := by rw [sizeLine_eq]; decide

/-- a list that nobody changes -/
def FzL (K : PySem.W.Frag) (H : Hp) (a : Addr) (xs : List V) : Prop := (∃ o, H a = some (.frz o (.lst xs))) ∨
  ∃ (o : Obj) (its : Array Value) (n : Nat), K.lookup a = some o ∧ o.cls = .type "list" ∧ o.dict = none ∧ o.data = .seq its n ∧ its.size ≤ sizeLine ∧ Vals xs its.toList
theorem FzL.sq {K : PySem.W.Frag} {H : Hp} {a : Addr} {xs : List V} (h : FzL K H a xs) : SqL K H a xs := by
  rcases h with ⟨o, h⟩ | h
  · exact .inl (.inr ⟨o, h⟩)
  · exact .inr h
/-- the class of the name k -/
def CK (K : PySem.W.Frag) (C : Addr) (k : Str) : Prop := PySem.W.nsIn K mainGlobals k = some (some (.ref C))
mutual
inductive Rep (K : PySem.W.Frag) (O : Addr → Prop) (H : Hp) : V → D → Prop
  | non : Rep K O H .non .none
  | bl (b : Bool) : Rep K O H (.bl b) (.bool b)
  | int (i : Int) : Rep K O H (.int i) (.int i)
  | str (x : Str) : Rep K O H (.str x) (.str x)
  | tup {a : Addr} {vs : List V} {ds : List D} : SqT K H a vs → Reps K O H vs ds → Rep K O H (.ref a) (.tuple ds)
  | lst {a : Addr} {vs : List V} {ds : List D} : ¬ O a → H a = some (.lst vs) → Reps K O H vs ds → Rep K O H (.ref a) (.list ds)
  | frz {a : Addr} {vs : List V} {ds : List D} : FzL K H a vs → Reps K O H vs ds → Rep K O H (.ref a) (.dict [(.list ds, .none)])
  | ins {a dx C : Addr} {k : Str} {ns : List Str} {vs : List V} {ds ks : List D} : ks = .str k :: ns.map .str → ns.length = ds.length → CK K C k → H a = some (.ins C dx (ns.zip vs)) → Reps K O H vs ds → Rep K O H (.ref a) (.dict [(.tuple ks, .tuple ds)])
inductive Reps (K : PySem.W.Frag) (O : Addr → Prop) (H : Hp) : List V → List D → Prop
  | nil : Reps K O H [] []
  | cons {v : V} {vs : List V} {d : D} {ds : List D} : Rep K O H v d → Reps K O H vs ds → Reps K O H (v :: vs) (d :: ds)
end

section
variable {K : PySem.W.Frag} {O O' : Addr → Prop} {H H' : Hp}
theorem sqT_keep {a : Addr} {vs : List V} (k : ∀ a o, H a = some o → ¬ O a → H' a = some o) (ol : ∀ a, O a → ∃ xs, H a = some (.lst xs)) (h : SqT K H a vs) : SqT K H' a vs := by
  rcases h with (h | ⟨o, h⟩) | h
  · refine .inl (.inl (k _ _ h fun z => ?_))
    obtain ⟨xs, e⟩ := ol _ z
    rw [h] at e; cases e
  · refine .inl (.inr ⟨o, k _ _ h fun z => ?_⟩)
    obtain ⟨xs, e⟩ := ol _ z
    rw [h] at e; cases e
  · exact .inr h
theorem fz_keep {a : Addr} {vs : List V} (k : ∀ a o, H a = some o → ¬ O a → H' a = some o) (ol : ∀ a, O a → ∃ xs, H a = some (.lst xs)) (h : FzL K H a vs) : FzL K H' a vs := by
  rcases h with ⟨o, h⟩ | h
  · refine .inl ⟨o, k _ _ h fun z => ?_⟩
    obtain ⟨xs, e⟩ := ol _ z
    rw [h] at e; cases e
  · exact .inr h
mutual
theorem Rep.mono (k : ∀ a o, H a = some o → ¬ O a → H' a = some o) (ol : ∀ a, O a → ∃ xs, H a = some (.lst xs)) (oo : ∀ a, O' a → O a ∨ H a = none) : ∀ (d : D) (v : V), Rep K O H v d → Rep K O' H' v d
  | .none, _, h => by cases h; exact .non
  | .bool b, _, h => by cases h; exact .bl b
  | .int i, _, h => by cases h; exact .int i
  | .str x, _, h => by cases h; exact .str x
  | .tuple ds, _, h => by
    cases h with
    | tup hs hr => exact .tup (sqT_keep k ol hs) (Reps.mono k ol oo ds _ hr)
  | .list ds, _, h => by
    cases h with
    | lst no ha hr =>
      refine .lst (fun z => ?_) (k _ _ ha no) (Reps.mono k ol oo ds _ hr)
      rcases oo _ z with q | q
      · exact no q
      · rw [ha] at q; cases q
  | .dict [(.list ds, .none)], _, h => by
    cases h with
    | frz hs hr => exact .frz (fz_keep k ol hs) (Reps.mono k ol oo ds _ hr)
  | .dict [], _, h => by cases h
  | .dict ((.none, _) :: _), _, h => by cases h
  | .dict ((.bool _, _) :: _), _, h => by cases h
  | .dict ((.int _, _) :: _), _, h => by cases h
  | .dict ((.str _, _) :: _), _, h => by cases h
  | .dict [(.tuple ks, .tuple ds)], _, h => by
    cases h with
    | ins e l c ha hr =>
      refine .ins e l c (k _ _ ha fun z => ?_) (Reps.mono k ol oo ds _ hr)
      obtain ⟨xs, e⟩ := ol _ z
      rw [ha] at e; cases e
  | .dict ((.tuple _, .none) :: _), _, h => by cases h
  | .dict ((.tuple _, .bool _) :: _), _, h => by cases h
  | .dict ((.tuple _, .int _) :: _), _, h => by cases h
  | .dict ((.tuple _, .str _) :: _), _, h => by cases h
  | .dict ((.tuple _, .list _) :: _), _, h => by cases h
  | .dict ((.tuple _, .dict _) :: _), _, h => by cases h
  | .dict ((.tuple _, .tuple _) :: _ :: _), _, h => by cases h
  | .dict ((.dict _, _) :: _), _, h => by cases h
  | .dict ((.list _, .bool _) :: _), _, h => by cases h
  | .dict ((.list _, .int _) :: _), _, h => by cases h
  | .dict ((.list _, .str _) :: _), _, h => by cases h
  | .dict ((.list _, .tuple _) :: _), _, h => by cases h
  | .dict ((.list _, .list _) :: _), _, h => by cases h
  | .dict ((.list _, .dict _) :: _), _, h => by cases h
  | .dict ((.list _, .none) :: _ :: _), _, h => by cases h
theorem Reps.mono (k : ∀ a o, H a = some o → ¬ O a → H' a = some o) (ol : ∀ a, O a → ∃ xs, H a = some (.lst xs)) (oo : ∀ a, O' a → O a ∨ H a = none) : ∀ (ds : List D) (vs : List V), Reps K O H vs ds → Reps K O' H' vs ds
  | [], _, h => by cases h; exact .nil
  | d :: ds, _, h => by
    cases h with
    | cons h1 h2 => exact .cons (Rep.mono k ol oo d _ h1) (Reps.mono k ol oo ds _ h2)
end
theorem Reps.length : ∀ {vs : List V} {ds : List D}, Reps K O H vs ds → vs.length = ds.length
  | _, _, .nil => rfl
  | _, _, .cons _ h => by rw [List.length_cons, List.length_cons, h.length]
theorem Reps.get : ∀ {vs : List V} {ds : List D} {i : Nat} {d : D}, Reps K O H vs ds → ds[i]? = some d → ∃ v, vs[i]? = some v ∧ Rep K O H v d
  | _, _, _, _, .nil, e => by simp at e
  | _, _, 0, d, .cons r _, e => by simp at e; subst e; exact ⟨_, rfl, r⟩
  | _, _, i + 1, d, .cons _ t, e => by
    obtain ⟨u, h1, h2⟩ := Reps.get (i := i) (d := d) t (by simpa using e)
    exact ⟨u, by simpa using h1, h2⟩
theorem Reps.getV : ∀ {vs : List V} {ds : List D} {i : Nat} {v : V}, Reps K O H vs ds → vs[i]? = some v → ∃ d, ds[i]? = some d ∧ Rep K O H v d
  | _, _, _, _, .nil, e => by simp at e
  | _, _, 0, d, .cons r _, e => by simp at e; subst e; exact ⟨_, rfl, r⟩
  | _, _, i + 1, d, .cons _ t, e => by
    obtain ⟨u, h1, h2⟩ := Reps.getV (i := i) (v := d) t (by simpa using e)
    exact ⟨u, by simpa using h1, h2⟩
theorem Reps.append : ∀ {vs us : List V} {ds es : List D}, Reps K O H vs ds → Reps K O H us es → Reps K O H (vs ++ us) (ds ++ es)
  | _, _, _, _, .nil, s => s
  | _, _, _, _, .cons r t, s => .cons r (Reps.append t s)
theorem Reps.take : ∀ {vs : List V} {ds : List D} (n : Nat), Reps K O H vs ds → Reps K O H (vs.take n) (ds.take n)
  | _, _, 0, _ => .nil
  | _, _, _ + 1, .nil => .nil
  | _, _, n + 1, .cons r t => .cons r (Reps.take n t)
theorem Reps.drop : ∀ {vs : List V} {ds : List D} (n : Nat), Reps K O H vs ds → Reps K O H (vs.drop n) (ds.drop n)
  | _, _, 0, r => r
  | _, _, _ + 1, .nil => .nil
  | _, _, n + 1, .cons _ t => Reps.drop n t
theorem Reps.set {v : V} {d : D} (r : Rep K O H v d) : ∀ {vs : List V} {ds : List D} (i : Nat), Reps K O H vs ds → Reps K O H (vs.set i v) (ds.set i d)
  | _, _, _, .nil => .nil
  | _, _, 0, .cons _ t => .cons r t
  | _, _, i + 1, .cons q t => .cons q (Reps.set r i t)
theorem Reps.reverse : ∀ {vs : List V} {ds : List D}, Reps K O H vs ds → Reps K O H vs.reverse ds.reverse
  | _, _, .nil => .nil
  | _, _, .cons r t => by rw [List.reverse_cons, List.reverse_cons]; exact t.reverse.append (.cons r .nil)
theorem Reps.isEmpty : ∀ {vs : List V} {ds : List D}, Reps K O H vs ds → vs.isEmpty = ds.isEmpty
  | _, _, .nil => rfl
  | _, _, .cons _ _ => rfl
theorem Reps.rep {n : Nat} : ∀ {vs : List V} {ds : List D}, Reps K O H vs ds → Reps K O H (List.replicate n vs).flatten (List.replicate n ds).flatten := by
  intro vs ds h
  induction n with
  | zero => exact .nil
  | succ n ih =>
    rw [List.replicate_succ, List.replicate_succ, List.flatten_cons, List.flatten_cons]
    exact h.append ih
theorem Reps.intsV : ∀ {vs : List V} {ds : List D} {ns : List Int}, Reps K O H vs ds → intsD ds = some ns → vs = ns.map V.int
  | _, _, ns, .nil, e => by
    have : some [] = some ns := e
    cases this; rfl
  | _, _, ns, .cons (d := d) r t, e => by
    cases d with
    | int i =>
      cases r
      unfold intsD at e
      obtain ⟨ms, e1, e2⟩ := Option.map_eq_some_iff.mp e
      subst e2
      rw [t.intsV e1]; rfl
    | _ => unfold intsD at e; cases e
theorem Reps.boolsV : ∀ {vs : List V} {ds : List D} {ns : List Bool}, Reps K O H vs ds → boolsD ds = some ns → vs = ns.map V.bl
  | _, _, ns, .nil, e => by
    have : some [] = some ns := e
    cases this; rfl
  | _, _, ns, .cons (d := d) r t, e => by
    cases d with
    | bool i =>
      cases r
      unfold boolsD at e
      obtain ⟨ms, e1, e2⟩ := Option.map_eq_some_iff.mp e
      subst e2
      rw [t.boolsV e1]; rfl
    | _ => unfold boolsD at e; cases e
theorem Reps.ofInts : ∀ (ns : List Int), Reps K O H (ns.map V.int) (ns.map PyData.int)
  | [] => .nil
  | n :: r => .cons (.int n) (Reps.ofInts r)
mutual
/-- without lists a value is what it is whatever is forbidden -/
theorem Rep.free : ∀ (d : D) (v : V), noL d = true → Rep K O H v d → Rep K O' H v d
  | .none, _, _, h => by cases h; exact .non
  | .bool b, _, _, h => by cases h; exact .bl b
  | .int i, _, _, h => by cases h; exact .int i
  | .str x, _, _, h => by cases h; exact .str x
  | .tuple ds, _, n, h => by
    cases h with
    | tup hs hr => exact .tup hs (Reps.free ds _ n hr)
  | .list ds, _, n, _ => by cases n
  | .dict _, _, n, _ => by cases n
theorem Reps.free : ∀ (ds : List D) (vs : List V), noLs ds = true → Reps K O H vs ds → Reps K O' H vs ds
  | [], _, _, h => by cases h; exact .nil
  | d :: ds, _, n, h => by
    have n' : (noL d && noLs ds) = true := n
    rw [Bool.and_eq_true] at n'
    cases h with
    | cons h1 h2 => exact .cons (Rep.free d _ n'.1 h1) (Reps.free ds _ n'.2 h2)
end
mutual
theorem Rep.dp : ∀ (d : D) (v : V), d.canLay0 = true → Rep K O H v d → Dp K H v d
  | .none, _, _, h => by cases h; exact .non
  | .bool b, _, _, h => by cases h; exact .bl b
  | .int i, _, _, h => by cases h; exact .int i
  | .str x, _, _, h => by cases h; exact .str x
  | .tuple ds, _, n, h => by
    cases h with
    | tup hs hr => exact .tup hs (Reps.dp ds _ n hr)
  | .list ds, _, n, h => by
    cases h with
    | lst no ha hr => exact .lst (.inl (.inl ha)) (Reps.dp ds _ n hr)
  | .dict _, _, n, _ => by cases n
theorem Reps.dp : ∀ (ds : List D) (vs : List V), PyData.canLayAll0 ds = true → Reps K O H vs ds → DpAll K H vs ds
  | [], _, _, h => by cases h; exact .nil
  | d :: ds, _, n, h => by
    have n' : (d.canLay0 && PyData.canLayAll0 ds) = true := n
    rw [Bool.and_eq_true] at n'
    cases h with
    | cons h1 h2 => exact .cons (Rep.dp d _ n'.1 h1) (Reps.dp ds _ n'.2 h2)
end
end

def OwnAt (σ : Sg) (env : En) (i : Nat) (a : Addr) : Prop := (∃ ds, env[i]? = some (.own ds)) ∧ σ[i]? = some (some (.ref a))
def Of (Ox : Addr → Prop) (σ : Sg) (env : En) (L : List Nat) (a : Addr) : Prop := Ox a ∨ ∃ i, i ∉ L ∧ OwnAt σ env i a
structure ER (K : PySem.W.Frag) (Ox : Addr → Prop) (Hb H : Hp) (σ : Sg) (env : En) : Prop where
  len : σ.length = env.length
  ext : Same Hb H
  ox : ∀ a, Ox a → ∃ xs, H a = some (.lst xs)
  val : ∀ (i : Nat) d, env[i]? = some (.v d) → ∃ v, σ[i]? = some (some v) ∧ Rep K (Of Ox σ env []) H v d
  own : ∀ (i : Nat) ds, env[i]? = some (.own ds) → ∃ a vs, σ[i]? = some (some (.ref a)) ∧ Hb a = none ∧ ¬ Ox a ∧ H a = some (.lst vs) ∧ Reps K (Of Ox σ env []) H vs ds
  dis : ∀ i j a, OwnAt σ env i a → OwnAt σ env j a → i = j
section
variable {K : PySem.W.Frag} {Ox : Addr → Prop} {Hb H H' H'' : Hp} {σ : Sg} {env : En}
theorem ER.lst (R : ER K Ox Hb H σ env) {L : List Nat} : ∀ a, Of Ox σ env L a → ∃ xs, H a = some (.lst xs) := fun a h => by
  rcases h with h | ⟨i, _, ⟨ds, e⟩, e2⟩
  · exact R.ox a h
  · obtain ⟨b, vs, s, _, _, q, _⟩ := R.own i ds e
    rw [s] at e2; cases e2
    exact ⟨vs, q⟩
theorem rep_ext {O : Addr → Prop} (s : Same H H') (ol : ∀ a, O a → ∃ xs, H a = some (.lst xs)) {v : V} {d : D} (h : Rep K O H v d) : Rep K O H' v d :=
  Rep.mono (fun a o e _ => s a o e) ol (fun _ z => .inl z) d v h
theorem reps_ext {O : Addr → Prop} (s : Same H H') (ol : ∀ a, O a → ∃ xs, H a = some (.lst xs)) {v : List V} {d : List D} (h : Reps K O H v d) : Reps K O H' v d :=
  Reps.mono (fun a o e _ => s a o e) ol (fun _ z => .inl z) d v h
theorem rep_weak {O O' : Addr → Prop} (ol : ∀ a, O a → ∃ xs, H a = some (.lst xs)) (oo : ∀ a, O' a → O a) {v : V} {d : D} (h : Rep K O H v d) : Rep K O' H v d :=
  Rep.mono (fun a o e _ => e) ol (fun _ z => .inl (oo _ z)) d v h
theorem reps_weak {O O' : Addr → Prop} (ol : ∀ a, O a → ∃ xs, H a = some (.lst xs)) (oo : ∀ a, O' a → O a) {v : List V} {d : List D} (h : Reps K O H v d) : Reps K O' H v d :=
  Reps.mono (fun a o e _ => e) ol (fun _ z => .inl (oo _ z)) d v h
theorem of_sub {L L' : List Nat} (s : ∀ i ∈ L, i ∈ L') : ∀ a, Of Ox σ env L' a → Of Ox σ env L a := fun a h => by
  rcases h with h | ⟨i, n, q⟩
  · exact .inl h
  · exact .inr ⟨i, fun z => n (s i z), q⟩
theorem ER.ext' (R : ER K Ox Hb H σ env) (s : Same H H') : ER K Ox Hb H' σ env where
  len := R.len
  ext := R.ext.trans s
  ox := fun a h => let ⟨xs, e⟩ := R.ox a h; ⟨xs, s _ _ e⟩
  val := fun i d e => let ⟨v, e1, r⟩ := R.val i d e; ⟨v, e1, rep_ext s R.lst r⟩
  own := fun i ds e => let ⟨a, vs, e1, e2, e3, e4, r⟩ := R.own i ds e; ⟨a, vs, e1, e2, e3, s _ _ e4, reps_ext s R.lst r⟩
  dis := R.dis

def RR (K : PySem.W.Frag) (O : Addr → Prop) (H H' : Hp) (v : V) : RV → Prop
  | .v d => Rep K O H' v d
  | .l ds => ∃ a vs, v = .ref a ∧ H a = none ∧ H' a = some (.lst vs) ∧ Reps K (fun b => O b ∨ b = a) H' vs ds
/-- what may be looked into -/
def RC (K : PySem.W.Frag) (O : Addr → Prop) (H : Hp) (v : V) : D → Prop
  | .list ds => ∃ a vs, v = .ref a ∧ H a = some (.lst vs) ∧ Reps K O H vs ds
  | d => Rep K O H v d
variable {O : Addr → Prop} {v : V} {r : RV} {d : D}
theorem ol_or {a : Addr} {vs : List V} (e : H a = some (.lst vs)) (ol : ∀ a, O a → ∃ xs, H a = some (.lst xs)) : ∀ b, (O b ∨ b = a) → ∃ xs, H b = some (.lst xs) := fun b z => by
  rcases z with z | rfl
  · exact ol b z
  · exact ⟨vs, e⟩
theorem rep0 {a : Addr} {vs : List V} {ds : List D} (e : H a = some (.lst vs)) (ol : ∀ a, O a → ∃ xs, H a = some (.lst xs)) (h : Reps K (fun b => O b ∨ b = a) H vs ds) : Reps K O H vs ds := reps_weak (ol_or e ol) (fun _ z => .inl z) h
theorem RR.rep (h : RR K O H H' v r) (ol : ∀ a, O a → ∃ xs, H a = some (.lst xs)) (ol' : ∀ a, O a → ∃ xs, H' a = some (.lst xs)) : Rep K O H' v r.d := by
  cases r with
  | v d => exact h
  | l ds =>
    obtain ⟨a, vs, rfl, n, e, r⟩ := h
    refine .lst (fun z => ?_) e (rep0 e ol' r)
    obtain ⟨xs, q⟩ := ol a z
    rw [n] at q; cases q
theorem Rep.rc (h : Rep K O H v d) : RC K O H v d := by
  cases h with
  | non => exact .non
  | bl => exact .bl _
  | int => exact .int _
  | str => exact .str _
  | tup a b => exact .tup a b
  | lst a b c => exact ⟨_, _, rfl, b, c⟩
  | frz a b => exact .frz a b
  | ins a b c d e => exact .ins a b c d e
theorem RR.rc (h : RR K O H H' v r) (ol : ∀ a, O a → ∃ xs, H' a = some (.lst xs)) : RC K O H' v r.d := by
  cases r with
  | v d => exact Rep.rc h
  | l ds =>
    obtain ⟨a, vs, rfl, n, e, r⟩ := h
    exact ⟨_, _, rfl, e, rep0 e ol r⟩
theorem RC.ext (h : RC K O H v d) (s : Same H H') (ol : ∀ a, O a → ∃ xs, H a = some (.lst xs)) : RC K O H' v d := by
  cases d with
  | list ds =>
    obtain ⟨a, vs, e, e2, r⟩ := h
    exact ⟨a, vs, e, s _ _ e2, reps_ext s ol r⟩
  | _ => exact rep_ext s ol h
theorem RC.weak {O' : Addr → Prop} (h : RC K O H v d) (ol : ∀ a, O a → ∃ xs, H a = some (.lst xs)) (oo : ∀ a, O' a → O a) : RC K O' H v d := by
  cases d with
  | list ds =>
    obtain ⟨a, vs, e, e2, r⟩ := h
    exact ⟨a, vs, e, e2, reps_weak ol oo r⟩
  | _ => exact rep_weak ol oo h
theorem RC.dp (h : RC K O H v d) (n : d.canLay0 = true) : Dp K H v d := by
  cases d with
  | list ds =>
    obtain ⟨a, vs, e, e2, r⟩ := h
    subst e
    exact .lst (.inl (.inl e2)) (Reps.dp ds _ n r)
  | _ => exact Rep.dp _ _ n h
theorem RR.ext (h : RR K O H H' v r) (s : Same H' H'') (ol : ∀ a, O a → ∃ xs, H' a = some (.lst xs)) : RR K O H H'' v r := by
  cases r with
  | v d => exact rep_ext s ol h
  | l ds =>
    obtain ⟨a, vs, e, n, e2, r⟩ := h
    exact ⟨a, vs, e, n, s _ _ e2, reps_ext s (ol_or e2 ol) r⟩
theorem RR.back (h : RR K O H H' v r) (s : Same H'' H) : RR K O H'' H' v r := by
  cases r with
  | v d => exact h
  | l ds =>
    obtain ⟨a, vs, e, n, e2, r⟩ := h
    exact ⟨a, vs, e, s.free n, e2, r⟩
theorem RR.weak {O' : Addr → Prop} (h : RR K O H H' v r) (ol : ∀ a, O a → ∃ xs, H' a = some (.lst xs)) (oo : ∀ a, O' a → O a) : RR K O' H H' v r := by
  cases r with
  | v d => exact rep_weak ol oo h
  | l ds =>
    obtain ⟨a, vs, e, n, e2, r⟩ := h
    exact ⟨a, vs, e, n, e2, reps_weak (ol_or e2 ol) (fun b z => z.elim (fun w => .inl (oo b w)) .inr) r⟩
/-- a new list, a new tuple -/
theorem rr_l {a : Addr} {vs : List V} {ds : List D} (n : H a = none) (h : Reps K O H vs ds) (ol : ∀ a, O a → ∃ xs, H a = some (.lst xs)) : RR K O H (upd H a (.lst vs)) (.ref a) (.l ds) :=
  ⟨a, vs, rfl, n, upd_same, Reps.mono (fun b o e _ => by rw [upd_ne (ne_of_none e n)]; exact e) ol (fun b z => z.elim .inl fun w => .inr (by rw [w]; exact n)) ds vs h⟩
theorem same_new {a : Addr} {o : HO} (n : H a = none) : Same H (upd H a o) := fun b u e => by rw [upd_ne (ne_of_none e n)]; exact e
theorem rr_t {a : Addr} {vs : List V} {ds : List D} (n : H a = none) (h : Reps K O H vs ds) (ol : ∀ a, O a → ∃ xs, H a = some (.lst xs)) : RR K O H (upd H a (.tup vs)) (.ref a) (.v (.tuple ds)) :=
  Rep.tup (SqT.of upd_same) (reps_ext (same_new n) ol h)
theorem rc_items {xs : List D} (h : RC K O H v d) (e : items d = some xs) : ∃ a vs, v = .ref a ∧ (H a = some (.lst vs) ∧ d = .list xs ∨ SqT K H a vs ∧ d = .tuple xs) ∧ Reps K O H vs xs := by
  cases d with
  | list ds =>
    cases e
    obtain ⟨a, vs, e, e2, r⟩ := h
    exact ⟨a, vs, e, .inl ⟨e2, rfl⟩, r⟩
  | tuple ds =>
    cases e
    cases (show Rep K O H v (.tuple xs) from h) with
    | tup a b => exact ⟨_, _, rfl, .inr ⟨a, rfl⟩, b⟩
  | _ => cases e
end

/-- an expression of value f; lk: whose own lists may be within -/
def tE (K : PySem.W.Frag) (f : En → Option RV) (lk : List Nat) : TE := fun σ H Q => ∃ Ox Hb env r, ER K Ox Hb H σ env ∧ f env = some r ∧ ∀ v H', Same H H' → RR K (Of Ox σ env lk) H H' v r → Q v H'
/-- .. to be looked into -/
def tC (K : PySem.W.Frag) (f : En → Option RV) (lk : List Nat) : TE := fun σ H Q => ∃ Ox Hb env r, ER K Ox Hb H σ env ∧ f env = some r ∧ ∀ v H', Same H H' → RC K (Of Ox σ env lk) H' v r.d → Q v H'
def tT (K : PySem.W.Frag) (f : En → Option Bool) : TT := fun σ H Q => ∃ Ox Hb env b, ER K Ox Hb H σ env ∧ f env = some b ∧ ∀ H', Same H H' → Q b H'
def tA (K : PySem.W.Frag) (f : En → Option (List D)) (lk : List Nat) : TA := fun σ H Q => ∃ Ox Hb env ds, ER K Ox Hb H σ env ∧ f env = some ds ∧ ∀ vs H', Same H H' → Reps K (Of Ox σ env lk) H' vs ds → Q vs H'
inductive RCs (K : PySem.W.Frag) (O : Addr → Prop) (H : Hp) : List V → List D → Prop
  | nil : RCs K O H [] []
  | cons {v : V} {vs : List V} {d : D} {ds : List D} : RC K O H v d → RCs K O H vs ds → RCs K O H (v :: vs) (d :: ds)
def tAC (K : PySem.W.Frag) (f : En → Option (List D)) (lk : List Nat) : TA := fun σ H Q => ∃ Ox Hb env ds, ER K Ox Hb H σ env ∧ f env = some ds ∧ ∀ vs H', Same H H' → RCs K (Of Ox σ env lk) H' vs ds → Q vs H'
section
variable {X : Cx} {e : Expr} {es : List Expr}
theorem pe_mono {t t' : TE} (h : PE X e t) (m : ∀ σ H Q, t' σ H Q → t σ H Q) : PE X e t' := ⟨fun pins s σ H Q I q => h.run pins s σ H Q I (m σ H Q q)⟩
theorem pt_mono {t t' : TT} (h : PT X e t) (m : ∀ σ H Q, t' σ H Q → t σ H Q) : PT X e t' := ⟨fun pins s σ H Q I q => h.run pins s σ H Q I (m σ H Q q)⟩
theorem pa_mono {t t' : TA} (h : PA X es t) (m : ∀ σ H Q, t' σ H Q → t σ H Q) : PA X es t' := ⟨fun pos pins s σ H Q I q => h.run pos pins s σ H Q I (m σ H Q q)⟩
theorem tE_tC {K : PySem.W.Frag} {f : En → Option RV} {lk : List Nat} (h : PE X e (tE K f lk)) : PE X e (tC K f lk) := pe_mono h fun σ H Q ⟨Ox, Hb, env, r, R, e, k⟩ => ⟨Ox, Hb, env, r, R, e, fun v H' s rr => k v H' s (rr.rc (R.ext' s).lst)⟩
/-- nothing is known: no value -/
theorem pt_none {K : PySem.W.Frag} {f : En → Option Bool} (h : ∀ env, f env = none) : PT X e (tT K f) := ⟨fun _ _ _ _ _ _ ⟨_, _, env, _, _, q, _⟩ => by rw [h] at q; cases q⟩
end
end Wi

namespace L2
open PySem PySem.Spec PyProof.Rows
theorem tuple_mul0 (l : Addr) (items : Array Value) (n : Nat) (dd : Option Addr) (sl : Array (Option Value)) (x : Int) (u : Tok) (c0 : (decide (x < -(2 ^ 63)) || decide (x ≥ 2 ^ 63)) = false) (c1 : (items.isEmpty || x == 1) = false) (c2 : (decide (x ≤ 0) || items.isEmpty) = true) :
    Meets (Builtin.«tuple.__mul__» ⟨[.ref l, .int x u], []⟩) (fun _ R s => s.heap.get? l = some { cls := .type "tuple", dict := dd, data := .seq items n, slots := sl } ∧
      R (.ok (.ret (Value.ref s.heap.objs.size))) { s with heap := s.heap.push { cls := Value.type "tuple", data := Data.seq #[] }, toks := s.toks }) :=
  .of_wp fun prog w A R s h => by
    obtain ⟨hp, g, d, tk, os⟩ := s
    obtain ⟨hl, h⟩ := h
    have f1 := AutoSeq1.idx_int
    wp_walk using wpAny_loadPart' hl
    repeat (first
      | (refine wpAny_ite_false (decide_eq_false (by rw [c0]; exact Bool.false_ne_true)) ?_; wp_walk using wpAny_loadPart' hl)
      | (refine wpAny_ite_false (decide_eq_false (by rw [c1]; exact Bool.false_ne_true)) ?_; wp_walk using wpAny_loadPart' hl)
      | (refine wpAny_ite_true (decide_eq_true c2) ?_; wp_walk using wpAny_loadPart' hl))
    exact ⟨_, rfl, h⟩
theorem tuple_mul1 (l : Addr) (items : Array Value) (n : Nat) (dd : Option Addr) (sl : Array (Option Value)) (x : Int) (u : Tok) (c0 : (decide (x < -(2 ^ 63)) || decide (x ≥ 2 ^ 63)) = false) (c1 : (items.isEmpty || x == 1) = true) :
    Meets (Builtin.«tuple.__mul__» ⟨[.ref l, .int x u], []⟩) (fun _ R s => s.heap.get? l = some { cls := .type "tuple", dict := dd, data := .seq items n, slots := sl } ∧
      R (.ok (.ret (Value.ref l))) s) :=
  .of_wp fun prog w A R s h => by
    obtain ⟨hp, g, d, tk, os⟩ := s
    obtain ⟨hl, h⟩ := h
    have f1 := AutoSeq1.idx_int
    wp_walk using wpAny_loadPart' hl
    repeat (first
      | (refine wpAny_ite_false (decide_eq_false (by rw [c0]; exact Bool.false_ne_true)) ?_; wp_walk using wpAny_loadPart' hl)
      | (refine wpAny_ite_true (decide_eq_true c1) ?_; wp_walk using wpAny_loadPart' hl))
    exact ⟨_, rfl, h⟩
def rRepS (K : PySem.W.Frag) : R2 := fun x y H Q => ∃ l k xs, x = .ref l ∧ y = .int k ∧ SqT K H l xs ∧ xs ≠ [] ∧ -1000 ≤ k ∧ k ≤ 1 ∧ (k = 1 → Q (.ref l) H) ∧ (k ≤ 0 → ∀ p, H p = none → Q (.ref p) (upd H p (.tup [])))
theorem op_repS {X : Cx} : OpR X (binaryOp .Mult) (rRepS X.K) := by
  intro pins s σ H x y v u Q I rx ry h
  obtain ⟨l, k, xs, rfl, rfl, hT, hne, h1, h2, q1, q0⟩ := h
  cases rx
  obtain ⟨t, rfl⟩ := ry
  obtain ⟨its, r, ⟨⟨cls, dd, data, sl⟩, ho, hc, n, hd⟩, hs⟩ := I.tuple hT
  simp only at hc hd
  subst hc hd
  have hle : its.length = xs.length := r.length.symm
  have hn : its ≠ [] := fun e => hne (by
    rw [e] at hle
    exact List.eq_nil_of_length_eq_zero hle.symm)
  have hi : its.toArray.isEmpty = false := by
    cases its with
    | nil => exact absurd rfl hn
    | cons a b => rfl
  have c0 : (decide (k < -(2 ^ 63)) || decide (k ≥ 2 ^ 63)) = false := by
    rw [decide_eq_false (by omega), decide_eq_false (by omega)] <;> rfl
  by_cases hk : k = 1
  · have c1 : (its.toArray.isEmpty || k == 1) = true := by rw [hi, Bool.false_or, hk]; rfl
    refine wpAny_binaryOp_repeat_ref (T := "tuple") (U := "int") (by decide) ⟨_, ho, rfl⟩ (fun s' => typeIs_int s' k t) noFill_tuple_mul F.fills_int_mul F.slot_int_rmul repeat_tuple F.slot_int_index.lookup
      (call_meets F.slot_int_rmul (typeIs_int s k t) F.entry_int_rmul (F.args_int_rmul_2 _ _) (int_rmul_tuple k t l its.toArray n dd sl)
        ⟨ho, rfl, ⟨_, ho, rfl⟩, call_meets F.slot_tuple_mul ⟨_, ho, rfl⟩ F.entry_tuple_mul (F.args_tuple_mul_2 _ _) (tuple_mul1 l its.toArray n dd sl k t c0 c1) ⟨ho, ?_⟩⟩)
    exact ⟨.ref l, H, I, rfl, q1 hk⟩
  · have c1 : (its.toArray.isEmpty || k == 1) = false := by
      rw [hi, Bool.false_or]
      exact beq_eq_false_iff_ne.mpr hk
    have c2 : (decide (k ≤ 0) || its.toArray.isEmpty) = true := by
      rw [decide_eq_true (by omega)]; rfl
    refine wpAny_binaryOp_repeat_ref (T := "tuple") (U := "int") (by decide) ⟨_, ho, rfl⟩ (fun s' => typeIs_int s' k t) noFill_tuple_mul F.fills_int_mul F.slot_int_rmul repeat_tuple F.slot_int_index.lookup
      (call_meets F.slot_int_rmul (typeIs_int s k t) F.entry_int_rmul (F.args_int_rmul_2 _ _) (int_rmul_tuple k t l its.toArray n dd sl)
        ⟨ho, rfl, ⟨_, ho, rfl⟩, call_meets F.slot_tuple_mul ⟨_, ho, rfl⟩ F.entry_tuple_mul (F.args_tuple_mul_2 _ _) (tuple_mul0 l its.toArray n dd sl k t c0 c1 c2) ⟨ho, ?_⟩⟩)
    refine ⟨.ref s.heap.objs.size, _, I.laid (t' := s.toks) (o := .tup []) (fun b ob q => Heap.get?_push_of_some _ q) (Nat.le_refl _) ?_, rfl, q0 (by omega) _ (I.hok.fresh (Nat.le_refl _))⟩
    exact ⟨by rw [sizeLine_eq]; decide, [], .nil, IsTup.new _ _⟩
end L2
namespace Wi
open PySem PySem.Spec PyProof.Rows L2
section
variable {X : Cx} {e a b c : Expr} {es : List Expr} {pos : Pos}

theorem env_cases {env : En} {i : Nat} {r : RV} (h : rdv env i = some r) : (∃ d, env[i]? = some (.v d) ∧ r = .v d) ∨ ∃ ds, env[i]? = some (.own ds) ∧ r = .v (.list ds) := by
  unfold rdv at h
  split at h
  · rename_i d q; cases h; exact .inl ⟨d, q, rfl⟩
  · rename_i d q; cases h; exact .inr ⟨d, q, rfl⟩
  · cases h
theorem e_var {i : Nat} {x : Str} (hN : X.N[i]? = some x) (hv : Vis X.env.scope x) (hd : (x == ("__debug__" : Str)) = false) (hcd : (x == ("__classdict__" : Str)) = false) : PE X (.Name x pos) (tE X.K (fun env => rdv env i) [i]) :=
  pe_mono (pe_var hN hv hd hcd) fun σ H Q ⟨Ox, Hb, env, r, R, e, k⟩ => by
    rcases env_cases e with ⟨d, q, rfl⟩ | ⟨ds, q, rfl⟩
    · obtain ⟨v, e1, h⟩ := R.val i d q
      exact ⟨v, e1, k v H (Same.refl H) (rep_weak R.lst (of_sub (by intro i z; cases z)) h)⟩
    · obtain ⟨a, vs, e1, e2, e3, e4, h⟩ := R.own i ds q
      refine ⟨.ref a, e1, k (.ref a) H (Same.refl H) (.lst (fun z => ?_) e4 (reps_weak R.lst (of_sub (by intro i z; cases z)) h))⟩
      rcases z with z | ⟨j, nj, oj⟩
      · exact e3 z
      · exact nj (by rw [R.dis i j a ⟨⟨ds, q⟩, e1⟩ oj]; exact List.mem_cons_self)
theorem c_var {i : Nat} {x : Str} (hN : X.N[i]? = some x) (hv : Vis X.env.scope x) (hd : (x == ("__debug__" : Str)) = false) (hcd : (x == ("__classdict__" : Str)) = false) : PE X (.Name x pos) (tC X.K (fun env => rdv env i) []) :=
  pe_mono (pe_var hN hv hd hcd) fun σ H Q ⟨Ox, Hb, env, r, R, e, k⟩ => by
    rcases env_cases e with ⟨d, q, rfl⟩ | ⟨ds, q, rfl⟩
    · obtain ⟨v, e1, h⟩ := R.val i d q
      exact ⟨v, e1, k v H (Same.refl H) h.rc⟩
    · obtain ⟨a, vs, e1, e2, e3, e4, h⟩ := R.own i ds q
      exact ⟨.ref a, e1, k (.ref a) H (Same.refl H) ⟨a, vs, rfl, e4, h⟩⟩
theorem e_lit {v : V} {d : D} (h : PE X e (L2.tC v)) (r : ∀ O H, Rep X.K O H v d) : PE X e (tE X.K (fun _ => some (.v d)) []) :=
  pe_mono h fun σ H Q ⟨Ox, Hb, env, q, R, e, k⟩ => by cases e; exact k v H (Same.refl H) (r _ _)

def rO (K : PySem.W.Frag) (f : D → D → Option RV) : R2 := fun x y H Q => ∃ O d e r, (∀ a, O a → ∃ xs, H a = some (.lst xs)) ∧ RC K O H x d ∧ RC K O H y e ∧ f d e = some r ∧ ∀ v H', Same H H' → RR K O H H' v r → Q v H'
theorem opr_mono {f : Value → Value → Sem Value} {r r' : R2} (h : OpR X f r) (m : ∀ x y H Q, r' x y H Q → r x y H Q) : OpR X f r' := fun pins s σ H x y v u Q I rx ry q => h pins s σ H x y v u Q I rx ry (m x y H Q q)
theorem e_bin {op : Operator} {f : D → D → Option RV} {fa fb : En → Option RV} {la lb : List Nat} (ho : OpR X (binaryOp op) (rO X.K f)) (ha : PE X a (tC X.K fa la)) (hb : PE X b (tC X.K fb lb)) :
    PE X (.BinOp a op b pos) (tE X.K (fun env => (fa env).bind fun x => (fb env).bind fun y => f x.d y.d) (la ++ lb)) :=
  pe_mono (pe_op ho ha hb) fun σ H Q ⟨Ox, Hb, env, r, R, e, k⟩ => by
    obtain ⟨x, e1, e⟩ := Option.bind_eq_some_iff.mp e
    obtain ⟨y, e2, e3⟩ := Option.bind_eq_some_iff.mp e
    refine ⟨Ox, Hb, env, x, R, e1, fun v H1 s1 c1 => ⟨Ox, Hb, env, y, R.ext' s1, e2, fun u H2 s2 c2 => ?_⟩⟩
    have R2 := R.ext' (s1.trans s2)
    exact ⟨Of Ox σ env (la ++ lb), x.d, y.d, r, R2.lst, (c1.ext s2 (R.ext' s1).lst).weak R2.lst (of_sub fun i z => List.mem_append_left _ z), c2.weak R2.lst (of_sub fun i z => List.mem_append_right _ z), e3,
      fun w H3 s3 rr => k w H3 ((s1.trans s2).trans s3) (rr.back (s1.trans s2))⟩
theorem rc_int {K : PySem.W.Frag} {O : Addr → Prop} {H : Hp} {v : V} {i : Int} (h : RC K O H v (.int i)) : v = .int i := by
  cases (show Rep K O H v (.int i) from h); rfl
theorem rc_bool {K : PySem.W.Frag} {O : Addr → Prop} {H : Hp} {v : V} {i : Bool} (h : RC K O H v (.bool i)) : v = .bl i := by
  cases (show Rep K O H v (.bool i) from h); rfl
theorem rc_none {K : PySem.W.Frag} {O : Addr → Prop} {H : Hp} {v : V} (h : RC K O H v .none) : v = .non := by
  cases (show Rep K O H v .none from h); rfl
theorem rc_tup {K : PySem.W.Frag} {O : Addr → Prop} {H : Hp} {v : V} {ds : List D} (h : RC K O H v (.tuple ds)) : ∃ a vs, v = .ref a ∧ SqT K H a vs ∧ Reps K O H vs ds := by
  cases (show Rep K O H v (.tuple ds) from h) with
  | tup a b => exact ⟨_, _, rfl, a, b⟩
theorem o_int {f : Value → Value → Sem Value} {C : Int → Int → Prop} {g : Int → Int → Int} {q : Int → Int → Option RV} (h : OpR X f (rI C fun i j => .int (g i j))) (hq : ∀ i j r, q i j = some r → C i j ∧ r = .v (.int (g i j))) : OpR X f (rO X.K (intD q)) :=
  opr_mono h fun x y H Q ⟨O, d, e, r, ol, rx, ry, w, k⟩ => by
    unfold intD at w
    split at w
    · rename_i i j
      obtain ⟨hc, rfl⟩ := hq i j r w
      exact ⟨i, j, rc_int rx, rc_int ry, hc, k _ H (Same.refl H) (.int _)⟩
    · cases w
theorem o_sub : OpR X (binaryOp .Sub) (rO X.K (o2 .sub)) := o_int (C := fun _ _ => True) (g := fun i j => i - j) (opr_mono op_sub fun x y H Q ⟨i, j, a, b, _, q⟩ => ⟨i, j, a, b, q⟩) fun i j r e => by cases e; exact ⟨trivial, rfl⟩
theorem o_fdiv : OpR X (binaryOp .FloorDiv) (rO X.K (o2 .fdiv)) := o_int op_fdiv fun i j r e => by
  split at e
  · rename_i h; cases e; exact ⟨h, rfl⟩
  · cases e
theorem o_mod : OpR X (binaryOp .Mod) (rO X.K (o2 .mod)) := o_int op_mod fun i j r e => by
  split at e
  · rename_i h; cases e; exact ⟨h, rfl⟩
  · cases e
theorem o_pow : OpR X (binaryOp .Pow) (rO X.K (o2 .pow)) := o_int op_pow fun i j r e => by
  split at e
  · rename_i h; cases e; exact ⟨h, rfl⟩
  · cases e
theorem o_add : OpR X (binaryOp .Add) (rO X.K (o2 .add)) :=
  opr_mono ((op_add.or op_catA).or op_cat) fun x y H Q ⟨O, d, e, r, ol, rx, ry, w0, k⟩ => by
    have w : addD d e = some r := w0
    unfold addD at w
    split at w
    · rename_i i j
      cases w
      exact .inl (.inl ⟨i, j, rc_int rx, rc_int ry, k _ H (Same.refl H) (.int _)⟩)
    · rename_i xs ys
      split at w
      · rename_i hl
        cases w
        obtain ⟨a, vs, rfl, sa, ra⟩ := rc_tup rx
        obtain ⟨b, us, rfl, sb, rb⟩ := rc_tup ry
        have la := ra.length
        have lb := rb.length
        have hz := lim_le
        refine .inl (.inr ⟨a, b, vs, us, rfl, rfl, sa, sb, by omega, fun z => ?_, fun _ z => ?_, fun _ _ p hp => ?_⟩)
        · have : xs = [] := by rw [z] at la; exact List.eq_nil_of_length_eq_zero la.symm
          subst this
          exact k _ H (Same.refl H) (.tup sb (by simpa using rb))
        · have : ys = [] := by rw [z] at lb; exact List.eq_nil_of_length_eq_zero lb.symm
          subst this
          exact k _ H (Same.refl H) (.tup sa (by simpa using ra))
        · exact k _ _ (same_new hp) (rr_t hp (ra.append rb) ol)
      · cases w
    · rename_i xs ys
      split at w
      · rename_i hl
        cases w
        obtain ⟨a, vs, rfl, sa, ra⟩ := rx
        obtain ⟨b, us, rfl, sb, rb⟩ := ry
        have la := ra.length
        have lb := rb.length
        have hz := lim_le
        exact .inr ⟨a, b, vs, us, rfl, rfl, sa, sb, by omega, fun p hp => k _ _ (same_new hp) (rr_l hp (ra.append rb) ol)⟩
      · cases w
    · cases w
theorem o_mul : OpR X (binaryOp .Mult) (rO X.K (o2 .mul)) :=
  opr_mono (op_mul.or (op_rep.or (op_repT.or op_repS))) fun x y H Q ⟨O, d, e, r, ol, rx, ry, w0, k⟩ => by
    have w : mulD d e = some r := w0
    unfold mulD at w
    split at w
    · rename_i i j
      split at w
      · rename_i hm
        cases w
        refine .inl ⟨i, j, rc_int rx, rc_int ry, ?_, k _ H (Same.refl H) (.int _)⟩
        unfold mulOk at hm
        rw [Bool.or_eq_true, decide_eq_true_eq, decide_eq_true_eq] at hm
        exact hm
      · cases w
    · rename_i xs n
      split at w
      · rename_i hl
        cases w
        obtain ⟨a, vs, rfl, sa, ra⟩ := rx
        have la := ra.length
        have hz := lim_le
        have hz2 : sizeLine = 16777216 := sizeLine_eq
        refine .inr (.inl ⟨a, n, vs, rfl, rc_int ry, sa, by omega, by omega, by rw [la]; omega, fun p hp => k _ _ (same_new hp) (rr_l hp ra.rep ol)⟩)
      · cases w
    · rename_i xs n
      split at w
      · rename_i hl
        cases w
        obtain ⟨a, vs, rfl, sa, ra⟩ := rc_tup rx
        have la := ra.length
        have hne : vs ≠ [] := fun z => by
          rw [z] at la
          exact hl.1 (List.eq_nil_of_length_eq_zero la.symm)
        by_cases hn2 : 2 ≤ n
        · exact .inr (.inr (.inl ⟨a, n, vs, rfl, rc_int ry, sa, hne, hn2, hl.2.2.1, by omega, fun p hp => k _ _ (same_new hp) (rr_t hp ra.rep ol)⟩))
        · refine .inr (.inr (.inr ⟨a, n, vs, rfl, rc_int ry, sa, hne, hl.2.1, by omega, fun h1 => ?_, fun h0 p hp => ?_⟩))
          · subst h1
            refine k _ H (Same.refl H) (.tup sa ?_)
            show Reps _ _ _ vs (List.replicate 1 xs).flatten
            simpa using ra
          · have e0 : n.toNat = 0 := by omega
            rw [e0] at k
            exact k _ _ (same_new hp) (rr_t hp .nil ol)
      · cases w
    · cases w
theorem e_neg {fa : En → Option RV} {la : List Nat} (ha : PE X a (tE X.K fa la)) : PE X (.UnaryOp .USub a pos) (tE X.K (fun env => (fa env).bind fun x => match x with
    | .v (.int i) => some (.v (.int (-i)))
    | _ => none) []) :=
  pe_mono (pe_un un_neg ha) fun σ H Q ⟨Ox, Hb, env, r, R, e, k⟩ => by
    obtain ⟨x, e1, e⟩ := Option.bind_eq_some_iff.mp e
    split at e
    · rename_i i
      cases e
      refine ⟨Ox, Hb, env, _, R, e1, fun v H1 s1 rr => ?_⟩
      cases (show Rep _ _ _ v (.int i) from rr)
      exact ⟨i, rfl, k _ H1 s1 (.int _)⟩
    · cases e

def rK (K : PySem.W.Frag) (f : D → D → Option Bool) : R2 := fun x y H Q => ∃ O d e r, RC K O H x d ∧ RC K O H y e ∧ f d e = some r ∧ Q (.bl r) H
theorem e_cmp {op : CmpOp} {f : D → D → Option Bool} {fa fb : En → Option RV} {la lb : List Nat} (ho : OpR X (compareOp op) (rK X.K f)) (ha : PE X a (tC X.K fa la)) (hb : PE X b (tC X.K fb lb)) (hm : behindInMarks op b = false) :
    PE X (.Compare a [op] [b] pos) (tE X.K (fun env => (fa env).bind fun x => (fb env).bind fun y => (f x.d y.d).map fun c => .v (.bool c)) []) :=
  pe_mono (pe_cmpR ho ha hb hm) fun σ H Q ⟨Ox, Hb, env, r, R, e, k⟩ => by
    obtain ⟨x, e1, e⟩ := Option.bind_eq_some_iff.mp e
    obtain ⟨y, e2, e3⟩ := Option.bind_eq_some_iff.mp e
    obtain ⟨c, e4, rfl⟩ := Option.map_eq_some_iff.mp e3
    refine ⟨Ox, Hb, env, x, R, e1, fun v H1 s1 c1 => ⟨Ox, Hb, env, y, R.ext' s1, e2, fun u H2 s2 c2 => ?_⟩⟩
    have R2 := R.ext' (s1.trans s2)
    exact ⟨Of Ox σ env (la ++ lb), x.d, y.d, c, (c1.ext s2 (R.ext' s1).lst).weak R2.lst (of_sub fun i z => List.mem_append_left _ z), c2.weak R2.lst (of_sub fun i z => List.mem_append_right _ z), e4, k _ H2 (s1.trans s2) (.bl _)⟩
theorem t_cmp {op : CmpOp} {f : D → D → Option Bool} {fa fb : En → Option RV} {la lb : List Nat} (ho : OpR X (compareOp op) (rK X.K f)) (ha : PE X a (tC X.K fa la)) (hb : PE X b (tC X.K fb lb)) (hm : behindInMarks op b = false) :
    PT X (.Compare a [op] [b] pos) (tT X.K (fun env => (fa env).bind fun x => (fb env).bind fun y => f x.d y.d)) :=
  pt_mono (pt_cmpR ho ha hb hm) fun σ H Q ⟨Ox, Hb, env, r, R, e, k⟩ => by
    obtain ⟨x, e1, e⟩ := Option.bind_eq_some_iff.mp e
    obtain ⟨y, e2, e3⟩ := Option.bind_eq_some_iff.mp e
    refine ⟨Ox, Hb, env, x, R, e1, fun v H1 s1 c1 => ⟨Ox, Hb, env, y, R.ext' s1, e2, fun u H2 s2 c2 => ?_⟩⟩
    have R2 := R.ext' (s1.trans s2)
    exact ⟨Of Ox σ env (la ++ lb), x.d, y.d, r, (c1.ext s2 (R.ext' s1).lst).weak R2.lst (of_sub fun i z => List.mem_append_left _ z), c2.weak R2.lst (of_sub fun i z => List.mem_append_right _ z), e3, r, rfl, k H2 (s1.trans s2)⟩
theorem e_chn {op op' : CmpOp} {f g : D → D → Option Bool} {fa fb fc : En → Option RV} {la lb lc : List Nat} (ho : OpR X (compareOp op) (rK X.K f)) (ho' : OpR X (compareOp op') (rK X.K g)) (ha : PE X a (tC X.K fa la)) (hb : PE X b (tC X.K fb lb)) (hc : PE X c (tC X.K fc lc)) (hm : lastMarks [op, op'] [b, c] = false) :
    PE X (.Compare a [op, op'] [b, c] pos) (tE X.K (fun env => (fa env).bind fun x => (fb env).bind fun y => (f x.d y.d).bind fun k =>
      if k = true then (fc env).bind fun z => (g y.d z.d).map fun c => .v (.bool c) else some (.v (.bool false))) []) :=
  pe_mono (pe_chain ho ho' ha hb hc hm) fun σ H Q ⟨Ox, Hb, env, r, R, e, k⟩ => by
    obtain ⟨x, e1, e⟩ := Option.bind_eq_some_iff.mp e
    obtain ⟨y, e2, e⟩ := Option.bind_eq_some_iff.mp e
    obtain ⟨c0, e3, e⟩ := Option.bind_eq_some_iff.mp e
    refine ⟨Ox, Hb, env, x, R, e1, fun v H1 s1 c1 => ⟨Ox, Hb, env, y, R.ext' s1, e2, fun u H2 s2 c2 => ?_⟩⟩
    have R2 := R.ext' (s1.trans s2)
    refine ⟨Of Ox σ env (la ++ lb), x.d, y.d, c0, (c1.ext s2 (R.ext' s1).lst).weak R2.lst (of_sub fun i z => List.mem_append_left _ z), c2.weak R2.lst (of_sub fun i z => List.mem_append_right _ z), e3, c0, rfl, ?_⟩
    cases c0 with
    | false =>
      rw [if_neg Bool.false_ne_true] at e ⊢
      cases e
      exact k _ H2 (s1.trans s2) (.bl _)
    | true =>
      rw [if_pos rfl] at e ⊢
      obtain ⟨z, e4, e5⟩ := Option.bind_eq_some_iff.mp e
      obtain ⟨cc, e6, rfl⟩ := Option.map_eq_some_iff.mp e5
      refine ⟨Ox, Hb, env, z, R2, e4, fun w H3 s3 c3 => ?_⟩
      have R3 := R2.ext' s3
      exact ⟨Of Ox σ env (lb ++ lc), y.d, z.d, cc, (c2.ext s3 R2.lst).weak R3.lst (of_sub fun i z => List.mem_append_left _ z), c3.weak R3.lst (of_sub fun i z => List.mem_append_right _ z), e6, k _ H3 ((s1.trans s2).trans s3) (.bl _)⟩
theorem t_chn {op op' : CmpOp} {f g : D → D → Option Bool} {fa fb fc : En → Option RV} {la lb lc : List Nat} (ho : OpR X (compareOp op) (rK X.K f)) (ho' : OpR X (compareOp op') (rK X.K g)) (ha : PE X a (tC X.K fa la)) (hb : PE X b (tC X.K fb lb)) (hc : PE X c (tC X.K fc lc)) (hm : lastMarks [op, op'] [b, c] = false) :
    PT X (.Compare a [op, op'] [b, c] pos) (tT X.K (fun env => (fa env).bind fun x => (fb env).bind fun y => (f x.d y.d).bind fun k =>
      if k = true then (fc env).bind fun z => g y.d z.d else some false)) :=
  pt_mono (pt_chain ho ho' ha hb hc hm) fun σ H Q ⟨Ox, Hb, env, r, R, e, k⟩ => by
    obtain ⟨x, e1, e⟩ := Option.bind_eq_some_iff.mp e
    obtain ⟨y, e2, e⟩ := Option.bind_eq_some_iff.mp e
    obtain ⟨c0, e3, e⟩ := Option.bind_eq_some_iff.mp e
    refine ⟨Ox, Hb, env, x, R, e1, fun v H1 s1 c1 => ⟨Ox, Hb, env, y, R.ext' s1, e2, fun u H2 s2 c2 => ?_⟩⟩
    have R2 := R.ext' (s1.trans s2)
    refine ⟨Of Ox σ env (la ++ lb), x.d, y.d, c0, (c1.ext s2 (R.ext' s1).lst).weak R2.lst (of_sub fun i z => List.mem_append_left _ z), c2.weak R2.lst (of_sub fun i z => List.mem_append_right _ z), e3, c0, rfl, ?_⟩
    cases c0 with
    | false =>
      rw [if_neg Bool.false_ne_true] at e ⊢
      cases e
      exact ⟨false, rfl, k H2 (s1.trans s2)⟩
    | true =>
      rw [if_pos rfl] at e ⊢
      obtain ⟨z, e4, e5⟩ := Option.bind_eq_some_iff.mp e
      refine ⟨Ox, Hb, env, z, R2, e4, fun w H3 s3 c3 => ?_⟩
      have R3 := R2.ext' s3
      exact ⟨Of Ox σ env (lb ++ lc), y.d, z.d, r, (c2.ext s3 R2.lst).weak R3.lst (of_sub fun i z => List.mem_append_left _ z), c3.weak R3.lst (of_sub fun i z => List.mem_append_right _ z), e5, r, rfl, k H3 ((s1.trans s2).trans s3)⟩
theorem k_int {f : Value → Value → Sem Value} {g : Int → Int → Bool} (h : OpR X f (rI0 fun i j => .bl (g i j))) : OpR X f (rK X.K (cmI g)) :=
  opr_mono h fun x y H Q ⟨O, d, e, r, rx, ry, w, k⟩ => by
    unfold cmI at w
    split at w
    · rename_i i j
      cases w
      exact ⟨i, j, rc_int rx, rc_int ry, k⟩
    · cases w
theorem k_lt : OpR X (compareOp .Lt) (rK X.K (cm .lt)) := k_int op_lt
theorem k_le : OpR X (compareOp .LtE) (rK X.K (cm .le)) := k_int op_le
theorem k_gt : OpR X (compareOp .Gt) (rK X.K (cm .gt)) := k_int op_gt
theorem k_ge : OpR X (compareOp .GtE) (rK X.K (cm .ge)) := k_int op_ge
theorem eqD_inv {d e : D} {r : Bool} (h : eqD d e = some r) : SeqAt.shaped d = true ∧ SeqAt.shaped e = true ∧ r = PyData.eqv d e := by
  unfold eqD at h
  split at h
  · rename_i q; cases h; exact ⟨q.1, q.2, rfl⟩
  · cases h
theorem k_eq (hu : X.A.units + 100 < cLine) : OpR X (compareOp .Eq) (rK X.K (cm .eq)) :=
  opr_mono (op_eqD (by omega)) fun x y H Q ⟨O, d, e, r, rx, ry, w, k⟩ => by
    obtain ⟨h1, h2, rfl⟩ := eqD_inv w
    exact ⟨d, e, rx.dp (SeqAt.canLay_of_shaped h1), ry.dp (SeqAt.canLay_of_shaped h2), h1, h2, k⟩
theorem k_ne (hu : X.A.units + 100 < cLine) : OpR X (compareOp .NotEq) (rK X.K (cm .ne)) :=
  opr_mono (op_neD (by omega)) fun x y H Q ⟨O, d, e, r, rx, ry, w, k⟩ => by
    obtain ⟨q, w1, rfl⟩ := Option.map_eq_some_iff.mp w
    obtain ⟨h1, h2, rfl⟩ := eqD_inv w1
    exact ⟨d, e, rx.dp (SeqAt.canLay_of_shaped h1), ry.dp (SeqAt.canLay_of_shaped h2), h1, h2, k⟩
theorem inD_inv {d e : D} {r : Bool} (h : inD d e = some r) : ∃ xs, (e = .list xs ∨ e = .tuple xs) ∧ SeqAt.shaped d = true ∧ SeqAt.shaped e = true ∧ r = xs.any fun z => PyData.eqv z d := by
  unfold inD at h
  split at h
  · split at h
    · rename_i q; cases h; exact ⟨_, .inl rfl, q.1, q.2, rfl⟩
    · cases h
  · split at h
    · rename_i q; cases h; exact ⟨_, .inr rfl, q.1, q.2, rfl⟩
    · cases h
  · cases h
theorem k_in (hu : X.A.units + 100 < cLine) : OpR X (compareOp .In) (rK X.K (cm .inn)) := by
  intro pins s σ H x y v u Q I rx ry ⟨O, d, e, r, cx, cy, w, k⟩
  obtain ⟨xs, hx, h1, h2, rfl⟩ := inD_inv w
  have dx := cx.dp (SeqAt.canLay_of_shaped h1)
  have dy := cy.dp (SeqAt.canLay_of_shaped h2)
  rcases hx with rfl | rfl
  · exact op_inD (by omega) pins s σ H x y v u Q I rx ry ⟨d, xs, dx, dy, h1, h2, k⟩
  · obtain ⟨as, r1⟩ := Dp.reads I d x v dx rx
    obtain ⟨bs, r2⟩ := Dp.reads I (.tuple xs) y u dy ry
    exact SeqAt.in_tuple_reads r2 r1 (SeqAt.canLay_of_shaped h2) (SeqAt.canLay_of_shaped h1) (room_in_shaped h1 (by omega)) ⟨.bl _, H, I, rfl, k⟩
theorem k_nin (hu : X.A.units + 100 < cLine) : OpR X (compareOp .NotIn) (rK X.K (cm .nin)) := by
  intro pins s σ H x y v u Q I rx ry ⟨O, d, e, r, cx, cy, w, k⟩
  obtain ⟨q, w1, rfl⟩ := Option.map_eq_some_iff.mp w
  obtain ⟨xs, hx, h1, h2, rfl⟩ := inD_inv w1
  have dx := cx.dp (SeqAt.canLay_of_shaped h1)
  have dy := cy.dp (SeqAt.canLay_of_shaped h2)
  rcases hx with rfl | rfl
  · exact op_notInD (by omega) pins s σ H x y v u Q I rx ry ⟨d, xs, dx, dy, h1, h2, k⟩
  · obtain ⟨as, r1⟩ := Dp.reads I d x v dx rx
    obtain ⟨bs, r2⟩ := Dp.reads I (.tuple xs) y u dy ry
    exact SeqAt.notIn_tuple_reads r2 r1 (SeqAt.canLay_of_shaped h2) (SeqAt.canLay_of_shaped h1) (room_in_shaped h1 (by omega)) ⟨.bl _, H, I, rfl, k⟩
theorem isN_of {K : PySem.W.Frag} {O : Addr → Prop} {H : Hp} {v : V} {d : D} (h : RC K O H v d) : decide (v = .non) = isN d := by
  cases d with
  | list ds =>
    obtain ⟨a, vs, rfl, _⟩ := h
    rfl
  | _ => cases (show Rep K O H v _ from h) <;> rfl
theorem isB_inv {d : D} {k r : Bool} (h : isB d k = some r) : ∃ j : Bool, d = .bool j ∧ r = decide (j = k) := by
  unfold isB at h
  split at h
  · cases h; exact ⟨_, rfl, rfl⟩
  · cases h
theorem isD_inv {d e : D} {r : Bool} (h : isD d e = some r) : (e = .none ∧ r = isN d) ∨ ∃ j k : Bool, d = .bool j ∧ e = .bool k ∧ r = decide (j = k) := by
  unfold isD at h
  split at h
  · cases h; exact Or.inl ⟨rfl, rfl⟩
  · obtain ⟨j, a, b⟩ := isB_inv h
    exact Or.inr ⟨j, _, a, rfl, b⟩
  · cases h
theorem opr_or {f : Value → Value → Sem Value} {r r' : R2} (h : OpR X f r) (h' : OpR X f r') : OpR X f (fun x y H Q => r x y H Q ∨ r' x y H Q) := fun pins s σ H x y v u Q I rx ry q => by
  rcases q with q | q
  · exact h pins s σ H x y v u Q I rx ry q
  · exact h' pins s σ H x y v u Q I rx ry q
theorem k_is : OpR X (compareOp .Is) (rK X.K (cm .is_)) :=
  opr_mono (opr_or op_isN op_isBl) fun x y H Q ⟨O, d, e, r, rx, ry, w, k⟩ => by
    rcases isD_inv w with ⟨rfl, rfl⟩ | ⟨a, b, rfl, rfl, rfl⟩
    · exact Or.inl ⟨rc_none ry, by rw [isN_of rx]; exact k⟩
    · exact Or.inr ⟨a, b, rc_bool rx, rc_bool ry, k⟩
theorem k_isnt : OpR X (compareOp .IsNot) (rK X.K (cm .isnt)) :=
  opr_mono (opr_or op_notN op_notBl) fun x y H Q ⟨O, d, e, r, rx, ry, w, k⟩ => by
    obtain ⟨q, w1, rfl⟩ := Option.map_eq_some_iff.mp w
    rcases isD_inv w1 with ⟨rfl, rfl⟩ | ⟨a, b, rfl, rfl, rfl⟩
    · exact Or.inl ⟨rc_none ry, by rw [isN_of rx]; exact k⟩
    · exact Or.inr ⟨a, b, rc_bool rx, rc_bool ry, k⟩

theorem truV_of {K : PySem.W.Frag} {O : Addr → Prop} {H : Hp} {v : V} {d : D} {k : Bool} (h : RC K O H v d) (e : truth d = some k) : TruV K v H k := by
  cases d with
  | list ds =>
    obtain ⟨a, vs, rfl, q, r⟩ := h
    cases e
    exact .inl ⟨vs, .inl (.inl q), by rw [r.isEmpty]⟩
  | tuple ds =>
    obtain ⟨a, vs, rfl, q, r⟩ := rc_tup h
    cases e
    exact .inr (.inl ⟨vs, q, by rw [r.isEmpty]⟩)
  | none => rw [rc_none h]; cases e; rfl
  | bool b => rw [rc_bool h]; cases e; rfl
  | int b => rw [rc_int h]; cases e; rfl
  | _ => cases e
theorem t_truth {fa : En → Option RV} {la : List Nat} (ha : PE X a (tC X.K fa la)) (he : ∀ whole, isTrue a X.env whole = (do let v ← whole; standAt a.pos; holding [v] (truthy v))) :
    PT X a (tT X.K fun env => (fa env).bind fun x => truth x.d) :=
  pt_mono (pt_truth ha he) fun σ H Q ⟨Ox, Hb, env, r, R, e, k⟩ => by
    obtain ⟨x, e1, e⟩ := Option.bind_eq_some_iff.mp e
    exact ⟨Ox, Hb, env, x, R, e1, fun v H1 s1 c1 => ⟨r, truV_of c1 e, k H1 s1⟩⟩
theorem e_not {fa : En → Option RV} {la : List Nat} (ha : PE X a (tC X.K fa la)) : PE X (.UnaryOp .Not a pos) (tE X.K (fun env => (fa env).bind fun x => (truth x.d).map fun k => .v (.bool (!k))) []) :=
  pe_mono (pe_notT ha) fun σ H Q ⟨Ox, Hb, env, r, R, e, k⟩ => by
    obtain ⟨x, e1, e⟩ := Option.bind_eq_some_iff.mp e
    obtain ⟨q, e2, rfl⟩ := Option.map_eq_some_iff.mp e
    exact ⟨Ox, Hb, env, x, R, e1, fun v H1 s1 c1 => ⟨q, truV_of c1 e2, k _ H1 s1 (.bl _)⟩⟩
theorem t_not {fa : En → Option Bool} (ha : PT X a (tT X.K fa)) : PT X (.UnaryOp .Not a pos) (tT X.K fun env => (fa env).map fun k => !k) :=
  pt_mono (pt_not ha) fun σ H Q ⟨Ox, Hb, env, r, R, e, k⟩ => by
    obtain ⟨q, e2, rfl⟩ := Option.map_eq_some_iff.mp e
    exact ⟨Ox, Hb, env, q, R, e2, fun H1 s1 => k H1 s1⟩

variable {rest : List Expr}
theorem bl_inv {r : RV} {k : Bool} (h : bl? r = some k) : r = .v (.bool k) := by
  unfold bl? at h
  split at h
  · cases h; rfl
  · cases h
theorem e_and {fa fb : En → Option RV} {la lb : List Nat} (ha : PE X a (tE X.K fa la)) (hb : PE X (.BoolOp .And (b :: rest) pos) (tE X.K fb lb)) :
    PE X (.BoolOp .And (a :: b :: rest) pos) (tE X.K (fun env => (fa env).bind fun x => (bl? x).bind fun k => if k = true then fb env else some (.v (.bool false))) lb) :=
  pe_mono (pe_and ha hb) fun σ H Q ⟨Ox, Hb, env, r, R, e, k⟩ => by
    obtain ⟨x, e1, e⟩ := Option.bind_eq_some_iff.mp e
    obtain ⟨c, e2, e5⟩ := Option.bind_eq_some_iff.mp e
    have z := bl_inv e2
    subst z
    refine ⟨Ox, Hb, env, _, R, e1, fun v H1 s1 rr => ⟨c, ?_, ?_⟩⟩
    · cases (show Rep _ _ _ v (.bool c) from rr); rfl
    · cases c with
      | true =>
        rw [if_pos rfl] at e5 ⊢
        exact ⟨Ox, Hb, env, r, R.ext' s1, e5, fun u H2 s2 q => k u H2 (s1.trans s2) (q.back s1)⟩
      | false =>
        rw [if_neg Bool.false_ne_true] at e5 ⊢
        cases e5
        exact k _ H1 s1 (.bl _)
theorem e_or {fa fb : En → Option RV} {la lb : List Nat} (ha : PE X a (tE X.K fa la)) (hb : PE X (.BoolOp .Or (b :: rest) pos) (tE X.K fb lb)) :
    PE X (.BoolOp .Or (a :: b :: rest) pos) (tE X.K (fun env => (fa env).bind fun x => (bl? x).bind fun k => if k = true then some (.v (.bool true)) else fb env) lb) :=
  pe_mono (pe_or ha hb) fun σ H Q ⟨Ox, Hb, env, r, R, e, k⟩ => by
    obtain ⟨x, e1, e⟩ := Option.bind_eq_some_iff.mp e
    obtain ⟨c, e2, e5⟩ := Option.bind_eq_some_iff.mp e
    have z := bl_inv e2
    subst z
    refine ⟨Ox, Hb, env, _, R, e1, fun v H1 s1 rr => ⟨c, ?_, ?_⟩⟩
    · cases (show Rep _ _ _ v (.bool c) from rr); rfl
    · cases c with
      | false =>
        rw [if_neg Bool.false_ne_true] at e5 ⊢
        exact ⟨Ox, Hb, env, r, R.ext' s1, e5, fun u H2 s2 q => k u H2 (s1.trans s2) (q.back s1)⟩
      | true =>
        rw [if_pos rfl] at e5 ⊢
        cases e5
        exact k _ H1 s1 (.bl _)
theorem e_one {op : BoolOp} {t : TE} (h : PE X a t) : PE X (.BoolOp op [a] pos) t := pe_one h
theorem w_and1 {fa : En → Option Bool} (h : PT X a (tT X.K fa)) : PW X (.BoolOp .And [a] pos) (tT X.K fa) := pw_and1 h
theorem w_or1 {fa : En → Option Bool} (h : PT X a (tT X.K fa)) : PW X (.BoolOp .Or [a] pos) (tT X.K fa) := pw_or1 h
theorem pw_mono {t t' : TT} (h : PW X e t) (m : ∀ σ H Q, t' σ H Q → t σ H Q) : PW X e t' := ⟨fun wh pins s σ H Q I q => h.run wh pins s σ H Q I (m σ H Q q)⟩
theorem w_and {fa fb : En → Option Bool} (ha : PT X a (tT X.K fa)) (hb : PW X (.BoolOp .And (b :: rest) pos) (tT X.K fb)) :
    PW X (.BoolOp .And (a :: b :: rest) pos) (tT X.K fun env => (fa env).bind fun k => if k = true then fb env else some false) :=
  pw_mono (pw_and ha hb) fun σ H Q ⟨Ox, Hb, env, r, R, e, k⟩ => by
    obtain ⟨c, e1, e⟩ := Option.bind_eq_some_iff.mp e
    refine ⟨Ox, Hb, env, c, R, e1, fun H1 s1 => ?_⟩
    cases c with
    | true =>
      rw [if_pos rfl] at e ⊢
      exact ⟨Ox, Hb, env, r, R.ext' s1, e, fun H2 s2 => k H2 (s1.trans s2)⟩
    | false =>
      rw [if_neg Bool.false_ne_true] at e ⊢
      cases e
      exact k H1 s1
theorem w_or {fa fb : En → Option Bool} (ha : PT X a (tT X.K fa)) (hb : PW X (.BoolOp .Or (b :: rest) pos) (tT X.K fb)) :
    PW X (.BoolOp .Or (a :: b :: rest) pos) (tT X.K fun env => (fa env).bind fun k => if k = true then some true else fb env) :=
  pw_mono (pw_or ha hb) fun σ H Q ⟨Ox, Hb, env, r, R, e, k⟩ => by
    obtain ⟨c, e1, e⟩ := Option.bind_eq_some_iff.mp e
    refine ⟨Ox, Hb, env, c, R, e1, fun H1 s1 => ?_⟩
    cases c with
    | false =>
      rw [if_neg Bool.false_ne_true] at e ⊢
      exact ⟨Ox, Hb, env, r, R.ext' s1, e, fun H2 s2 => k H2 (s1.trans s2)⟩
    | true =>
      rw [if_pos rfl] at e ⊢
      cases e
      exact k H1 s1
theorem e_ife {fc : En → Option Bool} {fa fb : En → Option RV} {la lb : List Nat} (hc : PT X c (tT X.K fc)) (ha : PE X a (tE X.K fa la)) (hb : PE X b (tE X.K fb lb)) :
    PE X (.IfExp c a b pos) (tE X.K (fun env => (fc env).bind fun k => if k = true then fa env else fb env) (la ++ lb)) :=
  pe_mono (pe_ifExp hc ha hb) fun σ H Q ⟨Ox, Hb, env, r, R, e, k⟩ => by
    obtain ⟨c, e1, e⟩ := Option.bind_eq_some_iff.mp e
    refine ⟨Ox, Hb, env, c, R, e1, fun H1 s1 => ?_⟩
    cases c with
    | true =>
      rw [if_pos rfl] at e ⊢
      exact ⟨Ox, Hb, env, r, R.ext' s1, e, fun u H2 s2 q => k u H2 (s1.trans s2) ((q.weak (R.ext' (s1.trans s2)).lst (of_sub fun i z => List.mem_append_left _ z)).back s1)⟩
    | false =>
      rw [if_neg Bool.false_ne_true] at e ⊢
      exact ⟨Ox, Hb, env, r, R.ext' s1, e, fun u H2 s2 q => k u H2 (s1.trans s2) ((q.weak (R.ext' (s1.trans s2)).lst (of_sub fun i z => List.mem_append_right _ z)).back s1)⟩
end
end Wi

namespace Wi
open PySem PySem.Spec PyProof.Rows L2

def isStar : Expr → Bool
  | .Starred .. => true
  | _ => false
theorem star_cons {e : Expr} {es : List Expr} {env : Env} (h : isStar e = false) : starEach (e :: es) env = (false, eval e env) :: starEach es env := by
  cases e <;> first | rfl | cases h
theorem star_any {env : Env} {pos : Pos} : ∀ {es : List Expr}, es.all (fun e => !isStar e) = true → (backTo pos (starEach es env)).any (·.1) = false
  | [], _ => rfl
  | e :: es, h => by
    rw [List.all_cons, Bool.and_eq_true, Bool.not_eq_true'] at h
    rw [star_cons h.1]
    have ih := star_any (env := env) (pos := pos) h.2
    show (false || (backTo pos (starEach es env)).any (·.1)) = false
    rw [ih]; rfl
section
variable {X : Cx} {e a b c : Expr} {es : List Expr} {pos : Pos}

theorem a_nil : PA X [] (tA X.K (fun _ => some []) []) := pa_mono pa_nil fun σ H Q ⟨Ox, Hb, env, r, R, e, k⟩ => by cases e; exact k _ H (Same.refl H) .nil
theorem a_cons {fa : En → Option RV} {fb : En → Option (List D)} {la lb : List Nat} (h : isStar e = false) (ha : PE X e (tE X.K fa la)) (hb : PA X es (tA X.K fb lb)) :
    PA X (e :: es) (tA X.K (fun env => (fa env).bind fun x => (fb env).map fun xs => x.d :: xs) (la ++ lb)) :=
  pa_mono (pa_cons ha hb (star_cons h)) fun σ H Q ⟨Ox, Hb, env, r, R, e, k⟩ => by
    obtain ⟨x, e1, e⟩ := Option.bind_eq_some_iff.mp e
    obtain ⟨y, e2, rfl⟩ := Option.map_eq_some_iff.mp e
    refine ⟨Ox, Hb, env, x, R, e1, fun v H1 s1 c1 => ⟨Ox, Hb, env, y, R.ext' s1, e2, fun u H2 s2 c2 => ?_⟩⟩
    have R2 := R.ext' (s1.trans s2)
    exact k _ H2 (s1.trans s2) (.cons (rep_weak R2.lst (of_sub fun i z => List.mem_append_left _ z) (rep_ext s2 (R.ext' s1).lst (c1.rep R.lst (R.ext' s1).lst))) (reps_weak R2.lst (of_sub fun i z => List.mem_append_right _ z) c2))
theorem ac_nil : PA X [] (tAC X.K (fun _ => some []) []) := pa_mono pa_nil fun σ H Q ⟨Ox, Hb, env, r, R, e, k⟩ => by cases e; exact k _ H (Same.refl H) .nil
theorem RCs.ext {K : PySem.W.Frag} {O : Addr → Prop} {H H' : Hp} (s : Same H H') (ol : ∀ a, O a → ∃ xs, H a = some (.lst xs)) : ∀ {vs : List V} {ds : List D}, RCs K O H vs ds → RCs K O H' vs ds
  | _, _, .nil => .nil
  | _, _, .cons r t => .cons (r.ext s ol) (RCs.ext s ol t)
theorem RCs.weak {K : PySem.W.Frag} {O O' : Addr → Prop} {H : Hp} (ol : ∀ a, O a → ∃ xs, H a = some (.lst xs)) (oo : ∀ a, O' a → O a) : ∀ {vs : List V} {ds : List D}, RCs K O H vs ds → RCs K O' H vs ds
  | _, _, .nil => .nil
  | _, _, .cons r t => .cons (r.weak ol oo) (RCs.weak ol oo t)
theorem ac_cons {fa : En → Option RV} {fb : En → Option (List D)} {la lb : List Nat} (h : isStar e = false) (ha : PE X e (tC X.K fa la)) (hb : PA X es (tAC X.K fb lb)) :
    PA X (e :: es) (tAC X.K (fun env => (fa env).bind fun x => (fb env).map fun xs => x.d :: xs) (la ++ lb)) :=
  pa_mono (pa_cons ha hb (star_cons h)) fun σ H Q ⟨Ox, Hb, env, r, R, e, k⟩ => by
    obtain ⟨x, e1, e⟩ := Option.bind_eq_some_iff.mp e
    obtain ⟨y, e2, rfl⟩ := Option.map_eq_some_iff.mp e
    refine ⟨Ox, Hb, env, x, R, e1, fun v H1 s1 c1 => ⟨Ox, Hb, env, y, R.ext' s1, e2, fun u H2 s2 c2 => ?_⟩⟩
    have R2 := R.ext' (s1.trans s2)
    exact k _ H2 (s1.trans s2) (.cons ((c1.ext s2 (R.ext' s1).lst).weak R2.lst (of_sub fun i z => List.mem_append_left _ z)) (c2.weak R2.lst (of_sub fun i z => List.mem_append_right _ z)))
theorem e_tup {fa : En → Option (List D)} {la : List Nat} {k0 : Nat} (ha : PA X es (tA X.K fa la)) (hl : ∀ env ds, fa env = some ds → ds.length ≤ 1000) : PE X (.Tuple es k0 pos) (tE X.K (fun env => (fa env).map fun ds => .v (.tuple ds)) la) :=
  pe_mono (pe_tup ha) fun σ H Q ⟨Ox, Hb, env, r, R, e, k⟩ => by
    obtain ⟨ds, e1, rfl⟩ := Option.map_eq_some_iff.mp e
    refine ⟨Ox, Hb, env, ds, R, e1, fun vs H1 s1 c1 => ⟨?_, fun p hp => k _ _ (s1.trans (same_new hp)) (RR.back (rr_t hp c1 (R.ext' s1).lst) s1)⟩⟩
    have := hl _ _ e1
    have hz : sizeLine = 16777216 := sizeLine_eq
    rw [c1.length]; omega
theorem e_lst {fa : En → Option (List D)} {la : List Nat} (ha : PA X es (tA X.K fa la)) (hl : ∀ env ds, fa env = some ds → ds.length ≤ 1000) : PE X (.List es pos) (tE X.K (fun env => (fa env).map fun ds => .l ds) la) :=
  pe_mono (pe_lst ha) fun σ H Q ⟨Ox, Hb, env, r, R, e, k⟩ => by
    obtain ⟨ds, e1, rfl⟩ := Option.map_eq_some_iff.mp e
    refine ⟨Ox, Hb, env, ds, R, e1, fun vs H1 s1 c1 => ⟨?_, fun p hp => k _ _ (s1.trans (same_new hp)) (RR.back (rr_l hp c1 (R.ext' s1).lst) s1)⟩⟩
    have := hl _ _ e1
    have hz : sizeLine = 16777216 := sizeLine_eq
    rw [c1.length]; omega

def notSlice : Expr → Bool
  | .Slice .. => false
  | _ => true
theorem plain_ix (h : notSlice b = true) : PlainIx b := by
  intro o i
  cases b <;> first | rfl | cases h
theorem plc_ix (n : Nat) (i : Int) : ixN n i = plc n i := rfl
theorem e_ix {fa fb : En → Option RV} {la lb : List Nat} (ha : PE X a (tC X.K fa la)) (hb : PE X b (tC X.K fb lb)) (h : notSlice b = true) :
    PE X (.Subscript a b pos) (tE X.K (fun env => (fa env).bind fun x => (fb env).bind fun y => (item x.d y.d).map .v) la) :=
  pe_mono (pe_ix ix_seq ha hb (plain_ix h)) fun σ H Q ⟨Ox, Hb, env, r, R, e, k⟩ => by
    obtain ⟨x, e1, e⟩ := Option.bind_eq_some_iff.mp e
    obtain ⟨y, e2, e⟩ := Option.bind_eq_some_iff.mp e
    obtain ⟨d, e3, rfl⟩ := Option.map_eq_some_iff.mp e
    refine ⟨Ox, Hb, env, x, R, e1, fun v H1 s1 c1 => ⟨Ox, Hb, env, y, R.ext' s1, e2, fun u H2 s2 c2 => ?_⟩⟩
    have R2 := R.ext' (s1.trans s2)
    have c1 := c1.ext s2 (R.ext' s1).lst
    unfold item at e3
    split at e3
    · rename_i xs i ex ey
      rw [ex] at c1
      rw [ey] at c2
      obtain ⟨p, vs, rfl, q, r⟩ := c1
      obtain ⟨j, e4, e5⟩ := Option.bind_eq_some_iff.mp e3
      obtain ⟨w, e6, rw'⟩ := r.get e5
      exact .inl ⟨p, vs, i, w, rfl, rc_int c2, .inl (.inl q), by unfold atI; rw [plc_ix, r.length, e4]; exact e6, k _ _ (s1.trans s2) rw'⟩
    · rename_i xs i ex ey
      rw [ex] at c1
      rw [ey] at c2
      obtain ⟨p, vs, rfl, q, r⟩ := rc_tup c1
      obtain ⟨j, e4, e5⟩ := Option.bind_eq_some_iff.mp e3
      obtain ⟨w, e6, rw'⟩ := r.get e5
      exact .inr (.inl ⟨p, vs, i, w, rfl, rc_int c2, q, by unfold atI; rw [plc_ix, r.length, e4]; exact e6, k _ _ (s1.trans s2) rw'⟩)
    · rename_i xs i ex ey
      rw [ex] at c1
      rw [ey] at c2
      cases (show Rep _ _ _ v (.dict [(.list xs, .none)]) from c1) with
      | frz q r =>
        obtain ⟨j, e4, e5⟩ := Option.bind_eq_some_iff.mp e3
        obtain ⟨w, e6, rw'⟩ := r.get e5
        exact .inl ⟨_, _, i, w, rfl, rc_int c2, q.sq, by unfold atI; rw [plc_ix, r.length, e4]; exact e6, k _ _ (s1.trans s2) rw'⟩
    · cases e3
def tO (K : PySem.W.Frag) (f : En → Option (Option Int)) : TO := fun σ H Q => ∃ Ox Hb env l, ER K Ox Hb H σ env ∧ f env = some l ∧ ∀ H', Same H H' → Q l H'
theorem po_mono {eo : Option Expr} {t t' : TO} (h : PO X eo t) (m : ∀ σ H Q, t' σ H Q → t σ H Q) : PO X eo t' := ⟨fun pins s σ H Q I q => h.run pins s σ H Q I (m σ H Q q)⟩
theorem o_none : PO X none (tO X.K fun _ => some none) := po_mono po_none fun σ H Q ⟨Ox, Hb, env, l, R, e, k⟩ => by
  cases e; exact k H (Same.refl H)
theorem o_some {fa : En → Option RV} {la : List Nat} (ha : PE X a (tC X.K fa la)) : PO X (some a) (tO X.K fun env => (fa env).bind fun y => optI y.d) := po_mono (po_some ha) fun σ H Q ⟨Ox, Hb, env, l, R, e, k⟩ => by
  obtain ⟨r, e1, e2⟩ := Option.bind_eq_some_iff.mp e
  refine ⟨Ox, Hb, env, r, R, e1, fun v H1 s1 c1 => ?_⟩
  unfold optI at e2
  split at e2
  · rename_i i q
    cases e2
    rw [q] at c1
    exact ⟨i, rc_int c1, k H1 s1⟩
  · cases e2
theorem bnd_ix (n d : Nat) (o : Option Int) : HT.sIx n d o = (match o with | none => d | some i => bnd n i) := by cases o <;> rfl
theorem cut_reps {K : PySem.W.Frag} {O : Addr → Prop} {H : Hp} {vs : List V} {ds : List D} (r : Reps K O H vs ds) (lo hi : Option Int) : Reps K O H (cutV vs lo hi) (cut ds lo hi) := by
  have e : cutV vs lo hi = (vs.drop (match lo with | none => 0 | some i => bnd ds.length i)).take ((match hi with | none => ds.length | some i => bnd ds.length i) - (match lo with | none => 0 | some i => bnd ds.length i)) := by
    unfold cutV
    rw [bnd_ix, bnd_ix, r.length]
  rw [e]
  exact (r.drop _).take _
theorem e_sl {fa : En → Option RV} {fl fh : En → Option (Option Int)} {la : List Nat} {lo hi : Option Expr} {p2 : Pos} (ha : PE X a (tC X.K fa la)) (hl : PO X lo (tO X.K fl)) (hh : PO X hi (tO X.K fh)) :
    PE X (.Subscript a (.Slice lo hi none p2) pos) (tE X.K (fun env => (fa env).bind fun x => (fl env).bind fun l => (fh env).bind fun h => slice x.d l h) la) :=
  pe_mono (pe_slice (sl_list.or sl_tupA) ha hl hh) fun σ H Q ⟨Ox, Hb, env, r, R, e, k⟩ => by
    obtain ⟨x, e1, e⟩ := Option.bind_eq_some_iff.mp e
    obtain ⟨l, e2, e⟩ := Option.bind_eq_some_iff.mp e
    obtain ⟨h, e3, e6⟩ := Option.bind_eq_some_iff.mp e
    refine ⟨Ox, Hb, env, x, R, e1, fun v H1 s1 c1 => ⟨Ox, Hb, env, l, R.ext' s1, e2, fun H2 s2 => ⟨Ox, Hb, env, h, R.ext' (s1.trans s2), e3, fun H3 s3 => ?_⟩⟩⟩
    have R3 := R.ext' ((s1.trans s2).trans s3)
    have c1 := c1.ext (s2.trans s3) (R.ext' s1).lst
    generalize x.d = xd at e6 c1
    unfold slice at e6
    split at e6
    · cases e6
      obtain ⟨p, vs, rfl, q, r⟩ := c1
      exact .inl ⟨p, vs, rfl, .inl (.inl q), fun p hp => k _ _ (((s1.trans s2).trans s3).trans (same_new hp)) (RR.back (rr_l hp (cut_reps r l h) R3.lst) ((s1.trans s2).trans s3))⟩
    · cases e6
      obtain ⟨p, vs, rfl, q, r⟩ := rc_tup c1
      refine .inr ⟨p, vs, rfl, q, fun z => ?_, fun z p hp => ?_⟩
      · refine k _ _ ((s1.trans s2).trans s3) (.tup q ?_)
        have e0 := cut_reps r l h
        have : cutV vs l h = vs := by
          unfold cutV
          rw [z.1, z.2]
          simp
        rw [this] at e0
        exact e0
      · exact k _ _ (((s1.trans s2).trans s3).trans (same_new hp)) (RR.back (rr_t hp (cut_reps r l h) R3.lst) ((s1.trans s2).trans s3))
    · cases e6
section
open HT
section
variable {prog : Program} {w : World} {A : Around} {E : Value → Shared → Prop} {s : Shared}
theorem rv_adjust (n : Nat) : Builtin.Slice.sliceAdjust none none (-1) (n : Int) = ((n : Int) - 1, -1) := rfl
theorem rv_places (n : Nat) : Builtin.Slice.slicePlaces ((n : Int) - 1) (-1) (-1) = n := by
  unfold Builtin.Slice.slicePlaces
  rw [if_neg (by decide), show (-(-1) : Int) = 1 by decide, Int.ediv_one]
  split <;> omega
theorem rv_pick (xs : Array Value) : ((List.range xs.size).filterMap fun (m : Nat) => xs[((xs.size : Int) - 1 + (m : Int) * (-1)).toNat]?).toArray = xs.toList.reverse.toArray := by
  have h := PySem.W.krv_all xs
  rw [← h, ← List.filterMap_reverse, ← PySem.W.krv_range, List.filterMap_map]
  congr 2
  funext m
  show xs[((xs.size : Int) - 1 + (m : Int) * (-1)).toNat]? = xs[xs.size - 1 - m]?
  have : ((xs.size : Int) - 1 + (m : Int) * (-1)).toNat = xs.size - 1 - m := by omega
  rw [this]
theorem rv_applied {sl : Addr} {t : Tok} {n : Nat} {Q : Int × Int × Nat → Shared → Prop} {vs : Value} (hs : s.heap.IsSliceOf sl .none .none vs) (ps : IsPart vs (some (-1)))
    (h : Q ((n : Int) - 1, -1, n) s) : wpAny (model prog w) A (Builtin.Slice.sliceApplied (.ref sl) (pure (n : Int))) Q E s := by
  obtain ⟨os, hos, hcs, hds⟩ := id hs
  unfold Builtin.Slice.sliceApplied Builtin.Slice.sliceFields
  refine wpAny_bind (wpAny_bind (wpAny_field hos hds (x := .none) rfl (wpAny_bind (wpAny_field hos hds (x := .none) rfl (wpAny_bind (wpAny_field hos hds (x := vs) rfl (wpAny_pure ?_)))))))
  refine wpAny_bind (slicePart_ ps ?_)
  show wpAny _ _ (if ((-1 : Int) == 0) = true then _ else _) _ _ s
  rw [if_neg (by decide)]
  refine wpAny_bind (slicePart_none (wpAny_bind (slicePart_none (wpAny_bind (wpAny_pure ?_)))))
  show wpAny _ _ (match Builtin.Slice.sliceAdjust none none (-1) (n : Int) with | (lo, hi) => pure (lo, (-1 : Int), Builtin.Slice.slicePlaces lo hi (-1))) _ _ s
  rw [rv_adjust]
  show wpAny _ _ (pure ((n : Int) - 1, (-1 : Int), Builtin.Slice.slicePlaces ((n : Int) - 1) (-1) (-1))) _ _ s
  rw [rv_places]
  exact wpAny_pure h
theorem rv_getItem {t sl : Addr} {items : Array Value} {vs : Value} {Q : Value → Shared → Prop} (ht : IsTup s.heap t items) (hs : s.heap.IsSliceOf sl .none .none vs) (ps : IsPart vs (some (-1)))
    (h : Q (.ref s.heap.objs.size) { s with heap := s.heap.push { cls := .type "tuple", data := .seq items.toList.reverse.toArray } })
    (hsz : items.size ≤ sizeLine) : wpAny (model prog w) A (getItem (.ref t) (.ref sl)) Q E s := by
  have htake : sizeOk (.seq items.toList.reverse.toArray) := by
    show items.toList.reverse.toArray.size ≤ sizeLine
    rw [List.size_toArray, List.length_reverse, Array.length_toList]
    exact hsz
  obtain ⟨os, hos, hcs, hds⟩ := id hs
  have hTs : s.TypeIs (.ref sl) "slice" := ⟨os, hos, hcs⟩
  unfold getItem
  try with_reducible refine wpAny_holding ?_
  first | refine wpAny_bind (wpAny_pure ?_) | skip
  refine wpAny_bind (wpAny_sequenceKey ht.typeIs (by decide) ?_)
  refine wpAny_bind (wpAny_callSpecial?_slot (name := Str.ofString "__getitem__") ht.typeIs PyProof.Rows.slot_tuple_getitem
    (wpAny_call_entry PyProof.Rows.slot_tuple_getitem ht.typeIs entry_tuple_getitem ?_ (args_tuple_getitem _ _)))
  show wpAny _ _ (Builtin.Tuple.tupleItemsOf (.ref t) >>= _) _ _ s
  refine wpAny_bind (tupleItemsOf_ ht ?_)
  refine wpAny_bind (wpAny_typeOf hTs ?_)
  rw [if_pos (by decide)]
  refine wpAny_bind (rv_applied (t := default) hs ps ?_)
  have hno : ¬ ((((items.size : Int) - 1) == 0 && (-1 : Int) == 1 && items.size == items.size) = true) := by
    intro q
    rw [Bool.and_eq_true, Bool.and_eq_true] at q
    exact absurd q.1.2 (by decide)
  show wpAny _ _ (if (((items.size : Int) - 1) == 0 && (-1 : Int) == 1 && items.size == items.size) = true then _ else _) _ _ s
  rw [if_neg hno, rv_pick]
  first
    | exact wpAny_bind (m := Builtin.Tuple.tupleExact _) (wpAny_newObj_type (wpAny_pure ⟨_, rfl, wpAny_pure h⟩) htake)
    | exact wpAny_bind (m := Builtin.Tuple.tupleExact _) (wpAny_newObj_type (wpAny_bind (wpAny_pure (wpAny_pure ⟨_, rfl, wpAny_pure h⟩))) htake)
    | exact wpAny_bind (wpAny_bind (m := Builtin.Tuple.tupleExact _) (wpAny_newObj_type (wpAny_pure (wpAny_pure ⟨_, rfl, wpAny_pure h⟩)) htake))
    | exact wpAny_bind (wpAny_bind (m := Builtin.Tuple.tupleExact _) (wpAny_newObj_type (wpAny_pure ⟨_, rfl, wpAny_pure h⟩) htake))
end
section
variable {X : Cx}
def tRevT (K : PySem.W.Frag) (te : TE) : TE := fun σ H Q => te σ H fun x H1 => ∃ a xs, x = .ref a ∧ SqT K H1 a xs ∧ ∀ p, H1 p = none → Q (.ref p) (upd H1 p (.tup xs.reverse))
theorem pe_revT {e : Expr} {te : TE} {k : Nat} {p1 p2 p3 pos : Pos} (he : PE X e te) : PE X (.Subscript e (.Slice none none (some (.UnaryOp .USub (.Constant (.int 1) k p1) p2)) p3) pos) (tRevT X.K te) := by
  refine ⟨fun pins s σ H Q I h => ?_⟩
  refine Subscript_ (thn (he.run pins s σ H _ I h) fun v s1 ⟨x, H1, I1, r1, a, xs, ex, hx, q⟩ => ?_)
  subst ex
  cases r1
  have hst : PO X (some (.UnaryOp .USub (.Constant (.int 1) k p1) p2)) (tPart (tUn (rU fun i => .int (-i)) (L2.tC (.int 1)))) := po_some (pe_un un_neg pe_int)
  refine wpAny_Slice (thn (po_none.run pins s1 σ H1 (fun o H2 => o = none ∧ H2 = H1) I1 ⟨rfl, rfl⟩) fun vl s2 ⟨l, H2, I2, pl, el, e2⟩ => ?_)
  subst el e2
  refine thn (po_none.run pins s2 σ H2 (fun o H3 => o = none ∧ H3 = H2) I2 ⟨rfl, rfl⟩) fun vu s3 ⟨u, H3, I3, pu, eu, e3⟩ => ?_
  subst eu e3
  refine thn (hst.run pins s3 σ H3 (fun o H4 => o = some (-1) ∧ H4 = H3) I3 ⟨1, rfl, -1, rfl, rfl, rfl⟩) fun vs s4 ⟨o, H4, I4, ps, eo, e4⟩ => ?_
  subst eo e4
  cases pl
  cases pu
  have I5 : Inv X pins σ H4 { s4 with heap := s4.heap.push { cls := .type "slice", data := .fields #[.none, .none, vs] } } := I4.kept (t' := s4.toks) fun b ob q => Heap.get?_push_of_some _ q
  obtain ⟨its, r, ht, hz⟩ := I5.tuple hx
  have hlen := r.length
  show wpAny (model X.prog X.w) X.A (subscriptTail e (.Slice none none (some (.UnaryOp .USub (.Constant (.int 1) k p1) p2)) p3) (.ref a) (.ref s4.heap.objs.size)) (EP X pins σ Q) X.xe { s4 with heap := s4.heap.push { cls := .type "slice", data := .fields #[.none, .none, vs] } }
  refine tail_any (ops := [.ref a, .ref s4.heap.objs.size]) ht.typeIs (PyProof.Rows.slot_tuple_getitem.lookup) ?_ (by with_unfolding_all rfl)
  refine rv_getItem ht (Heap.IsSliceOf.new _ .none .none vs) ps ?_ (by rw [List.size_toArray]; omega)
  refine ⟨.ref _, _, I5.laid (t' := s4.toks) (o := .tup xs.reverse) (fun b ob q => Heap.get?_push_of_some _ q) (Nat.le_refl _) ?_, rfl, q _ (I5.hok.fresh (Nat.le_refl _))⟩
  exact ⟨by rw [List.length_reverse]; exact hz, _, r.reverse, IsTup.new _ _⟩
end
end
theorem e_rev {fa : En → Option RV} {la : List Nat} {k0 : Nat} {p1 p2 p3 : Pos} (ha : PE X a (tC X.K fa la)) :
    PE X (.Subscript a (.Slice none none (some (.UnaryOp .USub (.Constant (.int 1) k0 p1) p2)) p3) pos) (tE X.K (fun env => (fa env).bind fun x => match x.d with
    | .list xs => some (.l xs.reverse)
    | .tuple xs => some (.v (.tuple xs.reverse))
    | _ => none) la) := ⟨fun pins s σ H Q I ⟨Ox, Hb, env, r, R, e, k⟩ => by
  obtain ⟨x, e1, e⟩ := Option.bind_eq_some_iff.mp e
  split at e
  · rename_i xs ex
    cases e
    refine (pe_revL ha).run pins s σ H Q I ⟨Ox, Hb, env, x, R, e1, fun v H1 s1 c1 => ?_⟩
    rw [ex] at c1
    obtain ⟨p, vs, rfl, q, r⟩ := c1
    exact ⟨p, vs, rfl, .inl (.inl q), fun p hp => k _ _ (s1.trans (same_new hp)) (RR.back (rr_l hp r.reverse (R.ext' s1).lst) s1)⟩
  · rename_i xs ex
    cases e
    refine (pe_revT ha).run pins s σ H Q I ⟨Ox, Hb, env, x, R, e1, fun v H1 s1 c1 => ?_⟩
    rw [ex] at c1
    obtain ⟨p, vs, rfl, q, r⟩ := rc_tup c1
    exact ⟨p, vs, rfl, q, fun p hp => k _ _ (s1.trans (same_new hp)) (RR.back (rr_t hp r.reverse (R.ext' s1).lst) s1)⟩
  · cases e⟩

def spD (K : PySem.W.Frag) (n : Nat) (f : List D → Option RV) : Sp := fun vs H Q _ => ∃ O ds r, (∀ a, O a → ∃ xs, H a = some (.lst xs)) ∧ Reps K O H vs ds ∧ ds.length = n ∧ f ds = some r ∧ ∀ v H', Same H H' → RR K O H H' v r → Q v H'
theorem e_call {k : Nat} {f : Addr} {fd : FuncData} {ps : List Str} {g : List D → Option RV} {x : Str} {p : Pos} {fa : En → Option (List D)} {la : List Nat} (F : FnOk X.prog X.w X.K X.mg X.base CX0 k f fd ps (spD X.K (es.length + 1) g)) (hr : Room k X.A) (hg : Gl X x)
    (hm : X.mg x = some (.ref f)) (hk : PySem.W.keepIn X.K (.ref f) = true) (hb : Binds X.K fd ps []) (ha : PA X (e :: es) (tA X.K fa la)) (hd : (x == ("__debug__" : Str)) = false) (hs : (e :: es).all (fun e => !isStar e) = true)
    (hl : ∀ env ds, fa env = some ds → ds.length = es.length + 1) :
    PE X (.Call (.Name x p) (e :: es) [] pos) (tE X.K (fun env => (fa env).bind g) la) := by
  rw [List.all_cons, Bool.and_eq_true, Bool.not_eq_true'] at hs
  refine pe_mono (pe_call F hr hg hm hk hb .nil pass0 ha hd (star_cons hs.1) (star_any hs.2)) fun σ H Q ⟨Ox, Hb, env, r, R, e, k⟩ => ?_
  obtain ⟨ds, e1, e2⟩ := Option.bind_eq_some_iff.mp e
  refine ⟨Ox, Hb, env, ds, R, e1, fun vs H1 s1 c1 => ?_⟩
  show spD X.K (es.length + 1) g (vs ++ []) H1 Q E0
  rw [List.append_nil]
  exact ⟨Of Ox σ env la, ds, r, (R.ext' s1).lst, c1, hl _ _ e1, e2, fun v H2 s2 rr => k v H2 (s1.trans s2) (rr.back s1)⟩
theorem e_call0 {k : Nat} {f : Addr} {fd : FuncData} {ps : List Str} {g : List D → Option RV} {x : Str} {p : Pos} (F : FnOk X.prog X.w X.K X.mg X.base CX0 k f fd ps (spD X.K 0 g)) (hr : Room k X.A) (hg : Gl X x)
    (hm : X.mg x = some (.ref f)) (hk : PySem.W.keepIn X.K (.ref f) = true) (hb : Binds X.K fd ps []) (hd : (x == ("__debug__" : Str)) = false) :
    PE X (.Call (.Name x p) [] [] pos) (tE X.K (fun _ => g []) []) := by
  refine pe_mono (pe_call0 F hr hg hm hk hb .nil pass0 hd) fun σ H Q ⟨Ox, Hb, env, r, R, e, k⟩ => ?_
  show spD X.K 0 g ([] ++ []) H Q E0
  exact ⟨Of Ox σ env [], [], r, R.lst, .nil, rfl, e, k⟩

def rB (K : PySem.W.Frag) (f : List D → Option RV) : List V → Hp → VK → Prop := fun vs H Q => ∃ O ds r, (∀ a, O a → ∃ xs, H a = some (.lst xs)) ∧ RCs K O H vs ds ∧ f ds = some r ∧ ∀ v H', Same H H' → RR K O H H' v r → Q v H'
theorem rB_of {fa : En → Option (List D)} {f : List D → Option RV} {la : List Nat} {σ : Sg} {H : Hp} {Q : VK} (h : tE X.K (fun env => (fa env).bind f) la σ H Q) : tAC X.K fa la σ H fun vs H1 => rB X.K f vs H1 Q := by
  obtain ⟨Ox, Hb, env, r, R, e, k⟩ := h
  obtain ⟨ds, e1, e2⟩ := Option.bind_eq_some_iff.mp e
  exact ⟨Ox, Hb, env, ds, R, e1, fun vs H1 s1 c1 => ⟨Of Ox σ env la, ds, r, (R.ext' s1).lst, c1, e2, fun v H2 s2 rr => k v H2 (s1.trans s2) (rr.back s1)⟩⟩
theorem e_bi {id : String} {x : Str} {p : Pos} {f : List D → Option RV} {fa : En → Option (List D)} {la : List Nat} (hc : CallR X (.builtin id) (rB X.K f)) (hg : Gl X x) (hm : X.mg x = none) (hv : bootBuiltins x = some (.builtin id)) (ha : PA X (e :: es) (tAC X.K fa la))
    (hn : x ≠ ("__name__" : Str)) (hd : (x == ("__debug__" : Str)) = false) (hs : (e :: es).all (fun e => !isStar e) = true) : PE X (.Call (.Name x p) (e :: es) [] pos) (tE X.K (fun env => (fa env).bind f) la) := by
  rw [List.all_cons, Bool.and_eq_true, Bool.not_eq_true'] at hs
  exact pe_mono (pe_callB hc hg hm hv ha hn hd (star_cons hs.1) (star_any hs.2)) fun σ H Q h => rB_of h
theorem e_biT {T : String} {x : Str} {p : Pos} {f : List D → Option RV} {fa : En → Option (List D)} {la : List Nat} (hc : CallR X (.type T) (rB X.K f)) (hg : Gl X x) (hm : X.mg x = none) (hv : bootBuiltins x = some (.type T)) (ha : PA X (e :: es) (tAC X.K fa la))
    (hn : x ≠ ("__name__" : Str)) (hd : (x == ("__debug__" : Str)) = false) (hs : (e :: es).all (fun e => !isStar e) = true) : PE X (.Call (.Name x p) (e :: es) [] pos) (tE X.K (fun env => (fa env).bind f) la) := by
  rw [List.all_cons, Bool.and_eq_true, Bool.not_eq_true'] at hs
  exact pe_mono (pe_callTy hc hg hm hv ha hn hd (star_cons hs.1) (star_any hs.2)) fun σ H Q h => rB_of h
theorem e_biL {id : String} {x : Str} {p : Pos} {f : List D → Option RV} {fa : En → Option (List D)} {la : List Nat} (hc : CallR X (.builtin id) (rB X.K f)) (hg : Gl X x) (hm : X.mg x = some (.builtin id)) (ha : PA X (e :: es) (tAC X.K fa la))
    (hd : (x == ("__debug__" : Str)) = false) (hs : (e :: es).all (fun e => !isStar e) = true) : PE X (.Call (.Name x p) (e :: es) [] pos) (tE X.K (fun env => (fa env).bind f) la) := by
  rw [List.all_cons, Bool.and_eq_true, Bool.not_eq_true'] at hs
  exact pe_mono (pe_callBfun hc hg hm ha hd (star_cons hs.1) (star_any hs.2)) fun σ H Q h => rB_of h
theorem callr_mono {f : Value} {r r' : List V → Hp → VK → Prop} (h : CallR X f r) (m : ∀ vs H Q, r' vs H Q → r vs H Q) : CallR X f r' := fun pins s σ H xs us Q I rv q => h pins s σ H xs us Q I rv (m xs H Q q)
theorem rcs1 {K : PySem.W.Frag} {O : Addr → Prop} {H : Hp} {vs : List V} {d : D} (h : RCs K O H vs [d]) : ∃ v, vs = [v] ∧ RC K O H v d := by
  cases h with
  | cons r t => cases t; exact ⟨_, rfl, r⟩
theorem rcs2 {K : PySem.W.Frag} {O : Addr → Prop} {H : Hp} {vs : List V} {d e : D} (h : RCs K O H vs [d, e]) : ∃ v u, vs = [v, u] ∧ RC K O H v d ∧ RC K O H u e := by
  cases h with
  | cons r t => obtain ⟨u, rfl, q⟩ := rcs1 t; exact ⟨_, _, rfl, r, q⟩
theorem itF_inv {f : List D → Option RV} {ds : List D} {r : RV} (h : itF f ds = some r) : ∃ d xs, ds = [d] ∧ items d = some xs ∧ f xs = some r := by
  unfold itF at h
  split at h
  · obtain ⟨xs, e1, e2⟩ := Option.bind_eq_some_iff.mp h
    exact ⟨_, xs, rfl, e1, e2⟩
  · cases h
theorem inF_inv {f : List Int → Option RV} {ds : List D} {r : RV} (h : inF f ds = some r) : ∃ d xs ns, ds = [d] ∧ items d = some xs ∧ intsD xs = some ns ∧ f ns = some r := by
  obtain ⟨d, xs, e1, e2, e3⟩ := itF_inv h
  obtain ⟨ns, e4, e5⟩ := Option.bind_eq_some_iff.mp e3
  exact ⟨d, xs, ns, e1, e2, e4, e5⟩
theorem b_len : CallR X (.builtin "len") (rB X.K (bF .len)) := callr_mono call_len_seq fun vs H Q ⟨O, ds, r, ol, rv, e0, k⟩ => by
  have e : lenF ds = some r := e0
  unfold lenF at e
  split at e
  · rename_i xs
    cases e
    obtain ⟨v, rfl, rc⟩ := rcs1 rv
    cases (show Rep _ _ _ v (.dict [(.list xs, .none)]) from rc) with
    | frz q r => exact ⟨_, _, rfl, .inl q.sq, by rw [r.length]; exact k _ H (Same.refl H) (.int _)⟩
  · obtain ⟨v, rfl, rc⟩ := rcs1 rv
    obtain ⟨xs, e1, rfl⟩ := Option.map_eq_some_iff.mp e
    obtain ⟨a, us, rfl, q, rr⟩ := rc_items rc e1
    refine ⟨a, us, rfl, ?_, by rw [rr.length]; exact k _ H (Same.refl H) (.int _)⟩
    rcases q with ⟨q, _⟩ | ⟨q, _⟩
    · exact .inl (.inl (.inl q))
    · exact .inr q
  · cases e
theorem b_tuple : CallR X (.type "tuple") (rB X.K (bF .tuple)) := callr_mono call_tuple_of fun vs H Q ⟨O, ds, r, ol, rv, e, k⟩ => by
  obtain ⟨d, xs, rfl, e1, e2⟩ := itF_inv e
  cases e2
  obtain ⟨v, rfl, rc⟩ := rcs1 rv
  obtain ⟨a, us, rfl, q, rr⟩ := rc_items rc e1
  refine ⟨a, us, rfl, ?_⟩
  rcases q with ⟨q, _⟩ | ⟨q, _⟩
  · exact .inl ⟨.inl (.inl q), fun p hp => k _ _ (same_new hp) (rr_t hp rr ol)⟩
  · exact .inr ⟨q, k _ H (Same.refl H) (.tup q rr)⟩
theorem b_list : CallR X (.type "list") (rB X.K (bF .list)) := callr_mono call_list_of fun vs H Q ⟨O, ds, r, ol, rv, e, k⟩ => by
  obtain ⟨d, xs, rfl, e1, e2⟩ := itF_inv e
  cases e2
  obtain ⟨v, rfl, rc⟩ := rcs1 rv
  obtain ⟨a, us, rfl, q, rr⟩ := rc_items rc e1
  refine ⟨a, us, rfl, ?_, fun p hp => k _ _ (same_new hp) (rr_l hp rr ol)⟩
  rcases q with ⟨q, _⟩ | ⟨q, _⟩
  · exact .inl (.inl (.inl q))
  · exact .inr q
theorem sum_tup {A : Around} {prog : Program} {w : World} {s : Shared} {E : Value → Shared → Prop} {t : Addr} {vs : List Value} {ns : List Int} {Q : Value → Shared → Prop} (hh : A.handled = none) (hl : s.heap.IsTuple t vs.toArray) (hi : IntsAre vs ns)
    (h : ∀ h' tk t', (∀ b o, s.heap.get? b = some o → h'.get? b = some o) → Q (.int ns.sum t') { s with heap := h', toks := tk }) : wpAny (model prog w) A (call (.builtin "sum") [.ref t]) Q E s := by
  obtain ⟨xs, hx⟩ := hi.allInts.items
  have hn : numsOf vs.toArray.toList = ns := by rw [show vs.toArray.toList = vs from rfl, hi.numsOf]
  rw [hx] at hl hn
  rw [nums_intItems] at hn
  refine PySem.W.ktm_sumG hh hl fun h' tk t' hk => ?_
  have := h h' tk t' hk
  rw [preSum_eq, List.take_of_length_le (by simp), hn]
  exact this
theorem b_sum (hc : X.calm = true) : CallR X (.builtin "sum") (rB X.K (bF .sum)) := by
  intro pins s σ H xs us Q I rv ⟨O, ds, r, ol, rc, e, k⟩
  obtain ⟨d, ys, ns, rfl, e1, e2, e3⟩ := inF_inv e
  cases e3
  obtain ⟨v, rfl, rc1⟩ := rcs1 rc
  obtain ⟨a, vs, rfl, q, rr⟩ := rc_items rc1 e1
  have ei := rr.intsV e2
  subst ei
  rw [Vals.ref1 rv]
  rcases q with ⟨q, _⟩ | ⟨q, _⟩
  · obtain ⟨its, rv, hl, _⟩ := I.list (.inl (.inl q))
    exact sum_raw (I.ok.hd hc) hl.isList rv.ints fun h' tk t' hk => ⟨.int _, H, I.kept hk, ⟨_, rfl⟩, k _ H (Same.refl H) (.int _)⟩
  · obtain ⟨its, rv, hl, _⟩ := I.tuple q
    exact sum_tup (I.ok.hd hc) (show s.heap.IsTuple a its.toArray from hl) rv.ints fun h' tk t' hk => ⟨.int _, H, I.kept hk, ⟨_, rfl⟩, k _ H (Same.refl H) (.int _)⟩
end
end Wi

namespace Wi
open PySem PySem.Spec PyProof.Rows L2
section
variable {X : Cx} {e a b c : Expr} {es : List Expr} {pos : Pos}
def rAllL (K : PySem.W.Frag) : List V → Hp → (V → Hp → Prop) → Prop := fun vs H Q => ∃ (a : Addr) (us : List V) (ns : List Nat), vs = [.ref a] ∧ SqL K H a us ∧
  (∀ (i n : Nat), ns[i]? = some n → ∃ (b : Addr) (ws : List V), us[i]? = some (V.ref b) ∧ SqL K H b ws ∧ ws.length = n) ∧ us.length = ns.length ∧ Q (.bl (ns.all fun n => n != 0)) H
theorem cr_allL (hc : X.calm = true) : CallR X (.builtin "all") (rAllL X.K) := by
  intro pins s σ H vs us Q I r h
  obtain ⟨a, xs, ns, rfl, hs, hi, hn, q⟩ := h
  obtain ⟨its, rv, hl, _⟩ := I.list hs
  rw [Vals.ref1 r]
  have hlen : its.toArray.size = ns.length := by rw [List.size_toArray, ← rv.length, hn]
  refine call_all_walkH (PySem.W.iter_listW (A := X.A.in1) (I.ok.hd hc) hl.isList fun s₂ e W st hfp hw hk => ?_)
  refine ⟨_, _, _, _, _, _, _, s.heap, fun i => (ns.getD i 0 != 0), rfl, W, st, hw, hk, ?_, fun s' m => ?_⟩
  · intro i v s' Q' E' keep hv hQ
    have hil : i < ns.length := by
      have := (Array.getElem?_eq_some_iff.mp hv).1
      omega
    obtain ⟨b, ws, e1, e2, e3⟩ := hi i ns[i] (List.getElem?_eq_getElem hil)
    obtain ⟨u, hu, ru⟩ := rv.get e1
    have hv' : its[i]? = some v := by simpa using hv
    rw [hu] at hv'
    cases hv'
    cases ru
    obtain ⟨its2, rv2, hl2, hz2⟩ := I.list e2
    have hl2' : s'.heap.IsList b its2.toArray := hl2.isList.at fun o eo => keep b o eo
    have hsz : its2.toArray.size = ns[i] := by rw [List.size_toArray, ← rv2.length, e3]
    refine wpAny_truthy_list hl2' ?_ ?_
    · have : sizeLine = 16777216 := sizeLine_eq
      have h2 := rv2.length
      rw [List.size_toArray]
      omega
    · have := hQ (s'.toks + 1 + 1) (by omega)
      have e4 : (ns.getD i 0 != 0) = !its2.toArray.isEmpty := by
        rw [List.getD_eq_getElem?_getD, List.getElem?_eq_getElem hil, Option.getD_some, ← hsz]
        unfold Array.isEmpty
        rcases Nat.eq_zero_or_pos its2.toArray.size with z | z
        · rw [z]; rfl
        · have h2 : its2.toArray.size ≠ 0 := by omega
          rw [bne_iff_ne.mpr h2, decide_eq_false h2]; rfl
      rw [← e4]; exact this
  · obtain ⟨h', tk, rfl, hk'⟩ := PySem.W.moved_old e rfl m
    refine ⟨.bl _, H, I.kept hk', ?_, q⟩
    show Value.bool _ = Value.bool _
    rw [hlen, PySem.W.range_all (fun n => n != 0) 0 ns]
end
section
variable {X : Cx} {e a b c : Expr} {es : List Expr} {pos : Pos}
theorem i1F_inv {f : Int → D} {ds : List D} {r : RV} (h : i1F f ds = some r) : ∃ i, ds = [.int i] ∧ r = .v (f i) := by
  unfold i1F at h
  split at h
  · cases h; exact ⟨_, rfl, rfl⟩
  · cases h
theorem i2F_inv {f : Int → Int → Option RV} {ds : List D} {r : RV} (h : i2F f ds = some r) : ∃ i j, ds = [.int i, .int j] ∧ f i j = some r := by
  unfold i2F at h
  split at h
  · exact ⟨_, _, rfl, h⟩
  · cases h
theorem orF_inv {f g : List D → Option RV} {ds : List D} {r : RV} (h : orF f g ds = some r) : f ds = some r ∨ g ds = some r := by
  unfold orF at h
  split at h
  · rename_i q; cases h; exact .inl q
  · exact .inr h
theorem b_abs : CallR X (.builtin "abs") (rB X.K (bF .abs)) := callr_mono call_abs fun vs H Q ⟨O, ds, r, ol, rv, e, k⟩ => by
  obtain ⟨i, rfl, rfl⟩ := i1F_inv e
  obtain ⟨v, rfl, rc⟩ := rcs1 rv
  exact ⟨i, by rw [rc_int rc], k _ H (Same.refl H) (.int _)⟩
theorem b_int : CallR X (.type "int") (rB X.K (bF .int)) := callr_mono call_int1 fun vs H Q ⟨O, ds, r, ol, rv, e0, k⟩ => by
  have e : intF ds = some r := e0
  unfold intF at e
  split at e
  · cases e
    obtain ⟨v, rfl, rc⟩ := rcs1 rv
    exact .inl ⟨_, by rw [rc_int rc], k _ H (Same.refl H) (.int _)⟩
  · cases e
    obtain ⟨v, rfl, rc⟩ := rcs1 rv
    exact .inr ⟨_, by rw [rc_bool rc], k _ H (Same.refl H) (.int _)⟩
  · cases e
theorem b_divmod : CallR X (.builtin "divmod") (rB X.K (bF .divmod)) := callr_mono call_divmod fun vs H Q ⟨O, ds, r, ol, rv, e, k⟩ => by
  obtain ⟨i, j, rfl, e2⟩ := i2F_inv e
  obtain ⟨v, u, rfl, r1, r2⟩ := rcs2 rv
  split at e2
  · rename_i h
    cases e2
    exact ⟨i, j, by rw [rc_int r1, rc_int r2], h, fun p hp => k _ _ (same_new hp) (rr_t hp (.cons (.int _) (.cons (.int _) .nil)) ol)⟩
  · cases e2
theorem b_gcd : CallR X (.builtin "math.gcd") (rB X.K (bF .gcd)) := callr_mono cr_gcd fun vs H Q ⟨O, ds, r, ol, rv, e, k⟩ => by
  obtain ⟨i, j, rfl, e2⟩ := i2F_inv e
  obtain ⟨v, u, rfl, r1, r2⟩ := rcs2 rv
  cases e2
  exact ⟨i, j, by rw [rc_int r1, rc_int r2], k _ H (Same.refl H) (.int _)⟩
theorem b_lcm : CallR X (.builtin "math.lcm") (rB X.K (bF .lcm)) := by
  intro pins s σ H xs us Q I rv ⟨O, ds, r, ol, rc, e, k⟩
  obtain ⟨i, j, rfl, e2⟩ := i2F_inv e
  obtain ⟨v, u, rfl, r1, r2⟩ := rcs2 rc
  split at e2
  · rename_i h
    cases e2
    rw [rc_int r1, rc_int r2] at rv
    obtain ⟨t, u, rfl⟩ := Vals.int2 rv
    exact PySem.W.mc_lcm (by omega) (by omega) fun _ => ⟨.int _, H, I.tok _, ⟨_, rfl⟩, k _ H (Same.refl H) (.int _)⟩
  · cases e2
theorem boF_inv {f : List Bool → Bool} {ds : List D} {r : RV} (h : boF f ds = some r) : ∃ xs bs, ds = [.list xs] ∧ boolsD xs = some bs ∧ r = .v (.bool (f bs)) := by
  unfold boF at h
  split at h
  · obtain ⟨bs, e1, rfl⟩ := Option.map_eq_some_iff.mp h
    exact ⟨_, bs, rfl, e1, rfl⟩
  · cases h
theorem callr_both {f : Value} {t t' u : List V → Hp → (V → Hp → Prop) → Prop} (h : CallR X f t) (h' : CallR X f t') (c : ∀ vs H Q, u vs H Q → t vs H Q ∨ t' vs H Q) : CallR X f u := fun pins s σ H vs us Q I r q => by
  rcases c vs H Q q with q | q
  · exact h pins s σ H vs us Q I r q
  · exact h' pins s σ H vs us Q I r q
theorem Reps.lens {K : PySem.W.Frag} {O : Addr → Prop} {H : Hp} : ∀ {xs : List D} {us : List V} {ns : List Nat}, Reps K O H us xs → lensD xs = some ns → us.length = ns.length ∧
    ∀ (i n : Nat), ns[i]? = some n → ∃ (b : Addr) (ws : List V), us[i]? = some (V.ref b) ∧ SqL K H b ws ∧ ws.length = n
  | [], _, ns, h, e => by
    cases h
    cases e
    exact ⟨rfl, fun i n z => by simp at z⟩
  | d :: r, _, ns, h, e => by
    cases h with
    | cons h1 h2 =>
      cases d with
      | list xs =>
        unfold lensD at e
        obtain ⟨ms, e1, rfl⟩ := Option.map_eq_some_iff.mp e
        obtain ⟨l, g⟩ := Reps.lens h2 e1
        refine ⟨by rw [List.length_cons, List.length_cons, l], fun i n z => ?_⟩
        cases i with
        | zero =>
          have z : some xs.length = some n := z
          cases z
          cases h1 with
          | lst no ha hr => exact ⟨_, _, rfl, .inl (.inl ha), hr.length⟩
        | succ i => exact g i n z
      | _ => unfold lensD at e; cases e
theorem lsF_inv {f : List Nat → Bool} {ds : List D} {r : RV} (h : lsF f ds = some r) : ∃ xs ns, ds = [.list xs] ∧ lensD xs = some ns ∧ r = .v (.bool (f ns)) := by
  unfold lsF at h
  split at h
  · obtain ⟨ns, e1, rfl⟩ := Option.map_eq_some_iff.mp h
    exact ⟨_, ns, rfl, e1, rfl⟩
  · cases h
theorem b_all (hc : X.calm = true) : CallR X (.builtin "all") (rB X.K (bF .all)) := callr_both (cr_all hc) (cr_allL hc) fun vs H Q ⟨O, ds, r, ol, rv, e, k⟩ => by
  rcases orF_inv e with e | e
  · obtain ⟨xs, bs, rfl, e1, rfl⟩ := boF_inv e
    obtain ⟨v, rfl, p, us, rfl, q, rr⟩ := rcs1 rv
    rw [rr.boolsV e1] at q
    exact .inl ⟨p, bs, rfl, .inl (.inl q), k _ H (Same.refl H) (.bl _)⟩
  · obtain ⟨xs, ns, rfl, e1, rfl⟩ := lsF_inv e
    obtain ⟨v, rfl, p, us, rfl, q, rr⟩ := rcs1 rv
    obtain ⟨l, g⟩ := rr.lens e1
    exact .inr ⟨p, us, ns, rfl, .inl (.inl q), g, l, k _ H (Same.refl H) (.bl _)⟩
theorem b_any (hc : X.calm = true) : CallR X (.builtin "any") (rB X.K (bF .any)) := callr_mono (cr_any hc) fun vs H Q ⟨O, ds, r, ol, rv, e, k⟩ => by
  obtain ⟨xs, bs, rfl, e1, rfl⟩ := boF_inv e
  obtain ⟨v, rfl, p, us, rfl, q, rr⟩ := rcs1 rv
  rw [rr.boolsV e1] at q
  exact ⟨p, bs, rfl, .inl (.inl q), k _ H (Same.refl H) (.bl _)⟩

theorem collect_tuple {prog : Program} {w : World} {A : Around} {E : Value → Shared → Prop} {s : Shared} {l : Addr} {vs : List Value} {Q : List Value → Shared → Prop} (hl : s.heap.IsTuple l vs.toArray)
    (h : Q vs { s with heap := (s.heap.push (seqObj "list" #[] 0)).update s.heap.objs.size (Obj.mapSeq (· ++ vs.toArray)) }) (hsz : vs.length ≤ sizeLine) :
    wpAny (model prog w) A (collect (.ref l)) Q E s := by
  obtain ⟨o, ho, hc, n, hd⟩ := id hl
  unfold collect
  refine wpAny_bind (wpAny_runValue (codeAny_builtin entry_proto_collect' ?_))
  show wpAny _ _ (do again (.builtin "list.__iadd__" ⟨[← newList [], .ref l], []⟩)) _ _ s
  refine wpAny_bind (wpAny_newList (wpAny_pure ⟨Code.quiet_builtin _ (by decide +kernel), codeAny_builtin entry_list_iadd' ?_⟩))
  show wpAny _ _ (Builtin.List.listExtendWith (.ref s.heap.objs.size) (.ref l) (.ref s.heap.objs.size)) _ _ { s with heap := s.heap.push (seqObj "list" #[] 0) }
  unfold Builtin.List.listExtendWith
  have ho' : (s.heap.push (seqObj "list" #[] 0)).get? l = some o := Heap.get?_push_of_some _ ho
  refine wpAny_bind (wpAny_typeOf (T := "tuple") ⟨o, ho', hc⟩ ?_)
  have ht : (Value.type "tuple" == Value.type "tuple") = true := by rfl
  rw [if_pos (by rw [ht]; simp)]
  refine wpAny_bind (listItems_at ho' hd ?_)
  refine wpAny_bind (listItems_at (xs := #[]) (n := 0) (Heap.get?_push_size _ rfl) rfl ?_)
  rw [if_neg (by simp)]
  refine wpAny_bind (listUpdate_at (xs := #[]) (n := 0) (Heap.get?_push_size _ rfl) rfl ?_ (Nat.zero_le _) (by show (#[] ++ vs.toArray).size ≤ sizeLine + 1; simp only [Array.size_append, List.size_toArray, List.length_nil]; omega))
  refine wpAny_pure ?_
  show wpAny (model prog w) A (do
      let o ← load s.heap.objs.size
      match o.data with
      | .seq xs _ => pure xs.toList
      | _ => unsupported "internal:collect") Q E { s with heap := (s.heap.push (seqObj "list" #[] 0)).update s.heap.objs.size (Obj.mapSeq (· ++ vs.toArray)) }
  refine wpAny_bind (wpAny_load (get?_update_seq (Heap.get?_push_size _ rfl) _) ?_)
  show wpAny _ _ (pure ((#[] : Array Value) ++ vs.toArray).toList) Q E _
  rw [show ((#[] : Array Value) ++ vs.toArray).toList = vs by simp]
  exact wpAny_pure h
theorem sorted_ordT {prog : Program} {w : World} {A : Around} {E : Value → Shared → Prop} {s : Shared} {l : Addr} {vs : List Value} {ltv : Value → Value → Bool} {Q : Value → Shared → Prop} (O : SrtO.Swo ltv) (hl : s.heap.IsTuple l vs.toArray) (hz : vs.length ≤ sizeLine)
    (hS : 2 ≤ vs.length → ∀ (h₁ : Heap) (a : Addr), h₁.get? a = some (seqObj "list" vs.toArray 0) → (∀ b o, s.heap.get? b = some o → b ≠ a ∧ h₁.get? b = some o) → SrtO.SortableO prog w A.in1.in1 { s with heap := h₁ } a vs ltv)
    (h : ∀ out : List Value, SrtO.Srtd ltv out → SrtO.Stb ltv out vs → Q (.ref (s.heap.objs.size + 1)) { s with heap := sortedAll s.heap vs out.toArray }) :
    wpAny (model prog w) A (call (.builtin "sorted") [.ref l]) Q E s := by
  refine Calls.call_function_entry kind_sorted plain_sorted entry_sorted (args_sorted1 _) ?_
  unfold Builtin.«sorted»
  refine wpAny_bind (m := checkCount "sorted" 1 1 _) (wpAny_pure ?_)
  refine wpAny_bind (collect_tuple hl ?_ hz)
  refine wpAny_bind (wpAny_newList ?_ hz)
  have hsz : ((s.heap.push (seqObj "list" #[] 0)).update s.heap.objs.size (Obj.mapSeq (· ++ vs.toArray))).objs.size = s.heap.objs.size + 1 := by
    rw [Heap.size_update, size_push']
  have hoL : (((s.heap.push (seqObj "list" #[] 0)).update s.heap.objs.size (Obj.mapSeq (· ++ vs.toArray))).push (seqObj "list" vs.toArray 0)).get? (s.heap.objs.size + 1) = some (seqObj "list" vs.toArray 0) := by
    rw [← hsz]; exact Heap.get?_push_size _ rfl
  have keep : ∀ b o, s.heap.get? b = some o → b ≠ s.heap.objs.size + 1 ∧ (((s.heap.push (seqObj "list" #[] 0)).update s.heap.objs.size (Obj.mapSeq (· ++ vs.toArray))).push (seqObj "list" vs.toArray 0)).get? b = some o := fun b o q => by
    have hlt : b < s.heap.objs.size := Heap.lt_size q
    refine ⟨Nat.ne_of_lt (Nat.lt_succ_of_lt hlt), Heap.get?_push_of_some _ ?_⟩
    rw [Heap.get?_update_ne _ _ _ _ (Nat.ne_of_lt hlt)]
    exact Heap.get?_push_of_some _ q
  show wpAny _ _ _ _ _ { s with heap := ((s.heap.push (seqObj "list" #[] 0)).update s.heap.objs.size (Obj.mapSeq (· ++ vs.toArray))).push (seqObj "list" vs.toArray 0) }
  rw [hsz]
  refine wpAny_bind (wpAny_holding (wpAny_call_entry slot_list_sort ⟨_, hoL, rfl⟩ entry_list_sort (SrtO.list_sort_ord O hoL hz (fun h2 => hS h2 _ _ hoL keep) fun out hs hb => ⟨_, rfl, ?_⟩) (args_list_sort _)))
  exact wpAny_pure ⟨_, rfl, h out hs hb⟩
theorem srt_uniq {l1 l2 : List Int} (hp : l1.Perm l2) (h1 : l1.Pairwise (· ≤ ·)) (h2 : l2.Pairwise (· ≤ ·)) : l1 = l2 := List.Perm.eq_of_pairwise (fun a b _ _ => Int.le_antisymm) h1 h2 hp
theorem srtI_perm (ns : List Int) : (srtI ns).Perm ns := List.mergeSort_perm _ _
theorem srtI_pw (ns : List Int) : (srtI ns).Pairwise (· ≤ ·) := by
  have h := List.pairwise_mergeSort (le := fun a b : Int => decide (a ≤ b)) (fun a b c h1 h2 => by simp only [decide_eq_true_eq] at *; omega) (fun a b => by simp only [Bool.or_eq_true, decide_eq_true_eq]; omega) ns
  exact h.imp fun h => by simpa using h
theorem b_sortedI : CallR X (.builtin "sorted") (rB X.K (inF fun ns => some (.l ((srtI ns).map .int)))) := by
  intro pins s σ H xs us Q I rv ⟨O, ds, r, ol, rc, e, k⟩
  obtain ⟨d, ys, ns, rfl, e1, e2, e3⟩ := inF_inv e
  cases e3
  obtain ⟨v, rfl, rc1⟩ := rcs1 rc
  obtain ⟨a, vs, rfl, q, rr⟩ := rc_items rc1 e1
  have ei := rr.intsV e2
  subst ei
  rw [Vals.ref1 rv]
  have fin : ∀ (its out : List Value), Vals (ns.map V.int) its → its.length ≤ sizeLine → SrtO.Srtd SrtO.ltIv out → SrtO.Stb SrtO.ltIv out its → EP X pins σ Q (.ref (s.heap.objs.size + 1)) { s with heap := sortedAll s.heap its out.toArray } := by
    intro its out rv hz h1 h2
    obtain ⟨k1, k2, k3⟩ := SrtO.ints_out rv.ints h1 h2
    obtain ⟨ep, he'⟩ := PyProof.Rows.sortedAll_at s.heap its out.toArray
    have hlen : ((out.map SrtO.iv).map V.int).length ≤ sizeLine := by
      rw [List.length_map, k2.length_eq]
      have := rv.length
      rw [List.length_map] at this
      omega
    have hn : H (s.heap.objs.size + 1) = none := I.hok.fresh (Nat.le_succ _)
    have eq : out.map SrtO.iv = srtI ns := srt_uniq (k2.trans (srtI_perm ns).symm) k3 (srtI_pw ns)
    rw [eq] at hlen k1
    exact ⟨.ref _, upd H (s.heap.objs.size + 1) (.lst ((srtI ns).map V.int)), I.laid (t' := s.toks) (fun _ _ => PyProof.Rows.sortedAll_old) (Nat.le_succ _) ⟨hlen, out, ep, vals_of_ints k1, he'⟩, rfl, k _ _ (same_new hn) (rr_l hn (Reps.ofInts _) ol)⟩
  rcases q with ⟨q, _⟩ | ⟨q, _⟩
  · obtain ⟨its, rv, hl, hz⟩ := I.list (.inl (.inl q))
    have hz' : its.length ≤ sizeLine := by rw [← rv.length]; exact hz
    exact SrtO.sorted_ord SrtO.swo_int hl.isList hz' (fun h2 h₁ a' _ _ => SrtO.ints_sortable rv.ints h2) fun out h1 h2 => fin its out rv hz' h1 h2
  · obtain ⟨its, rv, hl, hz⟩ := I.tuple q
    have hz' : its.length ≤ sizeLine := by rw [← rv.length]; exact hz
    exact sorted_ordT SrtO.swo_int (show s.heap.IsTuple a its.toArray from hl) hz' (fun h2 h₁ a' _ _ => SrtO.ints_sortable rv.ints h2) fun out h1 h2 => fin its out rv hz' h1 h2

/-- pairs of numbers, each at a tuple -/
theorem leP_trans (a b c : Int × Int) (h1 : leP a b = true) (h2 : leP b c = true) : leP a c = true := by
  unfold leP at *
  simp only [decide_eq_true_eq] at *
  omega
theorem leP_total (a b : Int × Int) : (leP a b || leP b a) = true := by
  unfold leP
  simp only [Bool.or_eq_true, decide_eq_true_eq]
  omega
theorem leP_anti {a b : Int × Int} (h1 : leP a b = true) (h2 : leP b a = true) : a = b := by
  unfold leP at *
  simp only [decide_eq_true_eq] at *
  exact Prod.ext (by omega) (by omega)
theorem srtP_perm (ps : List (Int × Int)) : (srtP ps).Perm ps := List.mergeSort_perm _ _
theorem srtP_pw (ps : List (Int × Int)) : (srtP ps).Pairwise fun a b => leP a b = true := List.pairwise_mergeSort leP_trans leP_total ps
theorem srtP_uniq {l1 l2 : List (Int × Int)} (hp : l1.Perm l2) (h1 : l1.Pairwise fun a b => leP a b = true) (h2 : l2.Pairwise fun a b => leP a b = true) : l1 = l2 := List.Perm.eq_of_pairwise (fun a b _ _ x y => leP_anti x y) h1 h2 hp
theorem prs_reps {K : PySem.W.Frag} {O : Addr → Prop} {H : Hp} : ∀ {vs : List V} {ds : List D} {ps : List (Int × Int)}, Reps K O H vs ds → prsD ds = some ps → ds = ps.map pqD ∧ ∀ v ∈ vs, ∃ t i j, v = .ref t ∧ SqT K H t [.int i, .int j]
  | _, _, ps, .nil, e => by
    have : some [] = some ps := e
    cases this
    exact ⟨rfl, fun v hv => by cases hv⟩
  | _, _, ps, .cons (d := d) (ds := r) rv t, e => by
    unfold prsD at e
    split at e
    · rename_i he; cases he
    · rename_i i j r' he
      cases he
      obtain ⟨qs, e1, rfl⟩ := Option.map_eq_some_iff.mp e
      obtain ⟨h1, h2⟩ := prs_reps t e1
      refine ⟨by rw [h1]; rfl, fun v hv => ?_⟩
      rcases List.mem_cons.mp hv with rfl | hv
      · cases rv with
        | tup hs hr =>
          cases hr with
          | cons ri hr =>
            cases hr with
            | cons rj hr =>
              cases hr
              cases ri
              cases rj
              exact ⟨_, i, j, rfl, hs⟩
      · exact h2 v hv
    · cases e
/-- the numbers of a pair -/
noncomputable def pOf (K : PySem.W.Frag) (H : Hp) (v : V) : Int × Int := open Classical in if h : ∃ p : Int × Int, ∃ t, v = .ref t ∧ SqT K H t [.int p.1, .int p.2] then h.choose else (0, 0)
theorem pOf_eq {pins : List (Addr × Obj)} {σ : Sg} {H : Hp} {s : Shared} (I : Inv X pins σ H s) {t : Addr} {i j : Int} (h : SqT X.K H t [.int i, .int j]) : pOf X.K H (.ref t) = (i, j) := by
  have hx : ∃ p : Int × Int, ∃ t', V.ref t = .ref t' ∧ SqT X.K H t' [.int p.1, .int p.2] := ⟨(i, j), t, rfl, h⟩
  unfold pOf
  rw [dif_pos hx]
  obtain ⟨t', e, h'⟩ := hx.choose_spec
  cases e
  have := I.tuple_inj h' h
  injection this with e1 e2
  injection e2 with e2 _
  injection e1 with e1
  injection e2 with e2
  exact Prod.ext e1 e2
theorem prs_map {pins : List (Addr × Obj)} {σ : Sg} {H : Hp} {s : Shared} (I : Inv X pins σ H s) {O : Addr → Prop} : ∀ {vs : List V} {ps : List (Int × Int)}, Reps X.K O H vs (ps.map pqD) → vs.map (pOf X.K H) = ps
  | [], [], _ => rfl
  | _ :: _, [], h => by cases h
  | [], _ :: _, h => by cases h
  | v :: vs, p :: ps, .cons rv t => by
    rw [List.map_cons, prs_map I t]
    cases (show Rep X.K O H v (.tuple [.int p.1, .int p.2]) from rv) with
    | tup hs hr =>
      cases hr with
      | cons ri hr =>
        cases hr with
        | cons rj hr =>
          cases hr
          cases ri
          cases rj
          rw [pOf_eq I hs]
theorem reps_prs {K : PySem.W.Frag} {O : Addr → Prop} {H : Hp} (f : V → Int × Int) : ∀ {ys : List V}, (∀ v ∈ ys, ∃ t, v = .ref t ∧ SqT K H t [.int (f v).1, .int (f v).2]) → Reps K O H ys ((ys.map f).map pqD)
  | [], _ => .nil
  | v :: r, h => by
    obtain ⟨t, e, q⟩ := h v List.mem_cons_self
    refine .cons ?_ (reps_prs f fun u hu => h u (List.mem_cons_of_mem _ hu))
    subst e
    exact .tup q (.cons (.int _) (.cons (.int _) .nil))
theorem b_sortedP : CallR X (.builtin "sorted") (rB X.K prF) := by
  intro pins s σ H xs us Q I rv ⟨O, ds, r, ol, rc, e, k⟩
  unfold prF at e
  split at e
  case h_2 => cases e
  rename_i ds'
  obtain ⟨ps, e1, rfl⟩ := Option.map_eq_some_iff.mp e
  obtain ⟨v, rfl, rc1⟩ := rcs1 rc
  obtain ⟨a, vs, rfl, q, rr⟩ := rc1
  obtain ⟨hds, hvs⟩ := prs_reps rr e1
  subst hds
  have hps := prs_map I rr
  obtain ⟨its, rv2, hl, hz⟩ := I.list (.inl (.inl q))
  rw [Vals.ref1 rv]
  obtain ⟨f1, f2⟩ := refs_back rv2 fun x m => by
    obtain ⟨t, i, j, e, _⟩ := hvs x m
    exact ⟨t, e⟩
  refine SrtO.sorted_pairsO (k := fun u => pOf X.K H (backV u)) hl.isList (by rw [← rv2.length]; exact hz) (fun v hv => ?_) fun h' d out h1 h2 kp hd hn => ?_
  · obtain ⟨t, rfl⟩ := f2 v hv
    have hm : V.ref t ∈ vs := by rw [f1]; exact List.mem_map.mpr ⟨_, hv, rfl⟩
    obtain ⟨t', i, j, e, ht⟩ := hvs _ hm
    cases e
    obtain ⟨its2, r2, ⟨o, ho, hc, n, hd⟩, _⟩ := I.tuple ht
    obtain ⟨u1, u2, rfl, ri, rj⟩ := vals2 r2
    obtain ⟨t1, rfl⟩ := ri
    obtain ⟨t2, rfl⟩ := rj
    have hp : pOf X.K H (backV (Value.ref t)) = (i, j) := pOf_eq I ht
    simp only [hp]
    exact ⟨t, o, t1, t2, n, rfl, ho, hc, hd⟩
  · have h3 : ∀ u ∈ out, ∃ a, u = Value.ref a := fun u hu => f2 u (h2.perm.mem_iff.mp hu)
    obtain ⟨n, hn⟩ := hn
    have hp : (out.map backV).Perm vs := by rw [f1]; exact h2.perm.map backV
    have hy : ((out.map backV).map (pOf X.K H)) = srtP ps := by
      refine srtP_uniq ?_ ?_ (srtP_pw ps)
      · exact ((hp.map (pOf X.K H)).trans (by rw [hps])).trans (srtP_perm ps).symm
      · rw [List.map_map, List.pairwise_map]
        refine List.Pairwise.imp (fun {a b} hab => ?_) h1
        have := SrtO.lexB_no.mp hab
        show leP (pOf X.K H (backV a)) (pOf X.K H (backV b)) = true
        unfold leP
        rw [decide_eq_true_eq]
        omega
    have hH : H d = none := I.hok.fresh hd
    have hr : Reps X.K O H (out.map backV) ((srtP ps).map pqD) := by
      rw [← hy]
      refine reps_prs (pOf X.K H) fun v hv => ?_
      obtain ⟨t, i, j, e, ht⟩ := hvs v (hp.mem_iff.mp hv)
      subst e
      exact ⟨t, rfl, by rw [pOf_eq I ht]; exact ht⟩
    refine ⟨.ref d, upd H d (.lst (out.map backV)), I.laid (t' := s.toks) kp hd ⟨?_, out, n, vals_back h3, hn⟩, rfl, k _ _ (same_new hH) (rr_l hH hr ol)⟩
    rw [hp.length_eq]
    exact hz
theorem b_sorted : CallR X (.builtin "sorted") (rB X.K (bF .sorted)) := by
  intro pins s σ H xs us Q I rv ⟨O, ds, r, ol, rc, e, k⟩
  rcases orF_inv e with e | e
  · exact b_sortedI pins s σ H xs us Q I rv ⟨O, ds, r, ol, rc, e, k⟩
  · exact b_sortedP pins s σ H xs us Q I rv ⟨O, ds, r, ol, rc, e, k⟩

theorem alike_ints (ns : List Int) : PySem.W.AlikeAll (ns.map PyData.int) := by
  refine ⟨fun x hx y hy => ?_, fun x hx => ?_⟩
  · obtain ⟨i, _, rfl⟩ := List.mem_map.mp hx
    obtain ⟨j, _, rfl⟩ := List.mem_map.mp hy
    rfl
  · obtain ⟨i, _, rfl⟩ := List.mem_map.mp hx
    exact fun z => by cases z
theorem depth_ints : ∀ ns : List Int, PyData.depthAll (ns.map PyData.int) = 0
  | [] => rfl
  | n :: r => by
    show max (PyData.depth (.int n)) (PyData.depthAll (r.map PyData.int)) = 0
    rw [depth_ints r]; rfl
theorem dpAll_ints {K : PySem.W.Frag} {H : Hp} : ∀ ns : List Int, DpAll K H (ns.map V.int) (ns.map PyData.int)
  | [] => .nil
  | n :: r => .cons (.int n) (dpAll_ints r)
theorem b_mx (hc : X.calm = true) (hu : X.A.units + 100 < cLine) : CallR X (.builtin "max") (rB X.K (bF .mx)) := by
  intro pins s σ H xs us Q I rv ⟨O, ds, r, ol, rc, e, k⟩
  rcases orF_inv e with e | e
  · obtain ⟨i, j, rfl, e⟩ := i2F_inv e
    cases e
    obtain ⟨v, u, rfl, r1, r2⟩ := rcs2 rc
    rw [rc_int r1, rc_int r2] at rv
    refine call_max2 hc pins s σ H _ us Q I rv ⟨i, j, rfl, ?_⟩
    have : (if j > i then j else i) = max i j := by split <;> omega
    rw [this]
    exact k _ H (Same.refl H) (.int _)
  · obtain ⟨d, ys, ns, rfl, e1, e2, e3⟩ := inF_inv e
    split at e3
    · cases e3
    · rename_i hne
      cases e3
      obtain ⟨v, rfl, rc1⟩ := rcs1 rc
      obtain ⟨a, vs, rfl, q, rr⟩ := rc_items rc1 e1
      have ei := rr.intsV e2
      subst ei
      rw [Vals.ref1 rv]
      cases ns with
      | nil => exact absurd rfl hne
      | cons n r =>
        have hd : X.A.units + 1 + PyData.depthAll (PyData.int n :: r.map PyData.int) < cLine := by
          rw [show PyData.int n :: r.map PyData.int = (n :: r).map PyData.int from rfl, depth_ints]; omega
        have fin : ∀ {v : Value} {h' : Heap} {tk : Nat} {bs : List Addr}, Reads h' v (PySem.W.maxD (.int n) (r.map .int)) bs → (∀ b o, s.heap.get? b = some o → h'.get? b = some o) → EP X pins σ Q v { s with heap := h', toks := tk } := by
          intro v h' tk bs hr hk
          rw [PySem.W.maxD_ints] at hr
          cases hr
          exact ⟨.int _, H, I.kept hk, ⟨_, rfl⟩, k _ H (Same.refl H) (.int _)⟩
        rcases q with ⟨q, _⟩ | ⟨q, _⟩
        · obtain ⟨its, rv, hl, _⟩ := I.list (.inl (.inl q))
          obtain ⟨as, ra⟩ := Dp.readsAll I ((n :: r).map PyData.int) _ its (dpAll_ints (n :: r)) rv
          exact PySem.W.max_list_data (x := .int n) (xs := r.map .int) (as := as) (I.ok.hd hc) hl.isList ra (alike_ints (n :: r)) hd fun i v h' tk bs _ hr hk => fin hr hk
        · obtain ⟨its, rv, hl, _⟩ := I.tuple q
          obtain ⟨as, ra⟩ := Dp.readsAll I ((n :: r).map PyData.int) _ its (dpAll_ints (n :: r)) rv
          exact PySem.W.max_tuple_data (x := .int n) (xs := r.map .int) (as := as) (I.ok.hd hc) (show s.heap.IsTuple a its.toArray from hl) ra (alike_ints (n :: r)) hd fun i v h' tk bs _ hr hk => fin hr hk
theorem b_mn (hc : X.calm = true) (hu : X.A.units + 100 < cLine) : CallR X (.builtin "min") (rB X.K (bF .mn)) := by
  intro pins s σ H xs us Q I rv ⟨O, ds, r, ol, rc, e, k⟩
  rcases orF_inv e with e | e
  · obtain ⟨i, j, rfl, e⟩ := i2F_inv e
    cases e
    obtain ⟨v, u, rfl, r1, r2⟩ := rcs2 rc
    rw [rc_int r1, rc_int r2] at rv
    refine call_min2 hc pins s σ H _ us Q I rv ⟨i, j, rfl, ?_⟩
    have : (if j < i then j else i) = min i j := by split <;> omega
    rw [this]
    exact k _ H (Same.refl H) (.int _)
  · obtain ⟨d, ys, ns, rfl, e1, e2, e3⟩ := inF_inv e
    split at e3
    · cases e3
    · rename_i hne
      cases e3
      obtain ⟨v, rfl, rc1⟩ := rcs1 rc
      obtain ⟨a, vs, rfl, q, rr⟩ := rc_items rc1 e1
      have ei := rr.intsV e2
      subst ei
      rw [Vals.ref1 rv]
      cases ns with
      | nil => exact absurd rfl hne
      | cons n r =>
        have hd : X.A.units + 1 + PyData.depthAll (PyData.int n :: r.map PyData.int) < cLine := by
          rw [show PyData.int n :: r.map PyData.int = (n :: r).map PyData.int from rfl, depth_ints]; omega
        have fin : ∀ {v : Value} {h' : Heap} {tk : Nat} {bs : List Addr}, Reads h' v (PySem.W.minD (.int n) (r.map .int)) bs → (∀ b o, s.heap.get? b = some o → h'.get? b = some o) → EP X pins σ Q v { s with heap := h', toks := tk } := by
          intro v h' tk bs hr hk
          rw [PySem.W.minD_ints] at hr
          cases hr
          exact ⟨.int _, H, I.kept hk, ⟨_, rfl⟩, k _ H (Same.refl H) (.int _)⟩
        rcases q with ⟨q, _⟩ | ⟨q, _⟩
        · obtain ⟨its, rv, hl, _⟩ := I.list (.inl (.inl q))
          obtain ⟨as, ra⟩ := Dp.readsAll I ((n :: r).map PyData.int) _ its (dpAll_ints (n :: r)) rv
          exact PySem.W.min_list_data (x := .int n) (xs := r.map .int) (as := as) (I.ok.hd hc) hl.isList ra (alike_ints (n :: r)) hd fun i v h' tk bs _ hr hk => fin hr hk
        · obtain ⟨its, rv, hl, _⟩ := I.tuple q
          obtain ⟨as, ra⟩ := Dp.readsAll I ((n :: r).map PyData.int) _ its (dpAll_ints (n :: r)) rv
          exact PySem.W.min_tuple_data (x := .int n) (xs := r.map .int) (as := as) (I.ok.hd hc) (show s.heap.IsTuple a its.toArray from hl) ra (alike_ints (n :: r)) hd fun i v h' tk bs _ hr hk => fin hr hk

def tyName : Ty → String
  | .int => "int"
  | .bool => "bool"
  | .tuple => "tuple"
  | .list => "list"
  | .str => "str"
def dName : D → String
  | .none => "NoneType"
  | .bool _ => "bool"
  | .int _ => "int"
  | .str _ => "str"
  | .list _ => "list"
  | .tuple _ => "tuple"
  | .dict _ => "dict"
theorem ty_of {K : PySem.W.Frag} {O : Addr → Prop} {H : Hp} {v : V} {d : D} (h : RC K O H v d) (hd : ∀ xs, d ≠ .dict xs) : TyX K H v (.type (dName d)) := by
  cases d with
  | list ds =>
    obtain ⟨a, vs, rfl, q, r⟩ := h
    exact .base (.lst q)
  | tuple ds =>
    obtain ⟨a, vs, rfl, q, r⟩ := rc_tup h
    rcases q with (q | ⟨o, q⟩) | ⟨o, its, n, q, q2, _⟩
    · exact .base (.tup q)
    · exact .fTuple q
    · exact .kTuple q q2
  | none => rw [rc_none h]; exact .base .non
  | bool b => rw [rc_bool h]; exact .base (.bl b)
  | int b => rw [rc_int h]; exact .base (.int b)
  | str x => cases (show Rep K O H v (.str x) from h); exact .base (.str x)
  | dict xs => exact absurd rfl (hd xs)
theorem isTy_inv {K : PySem.W.Frag} {t : Ty} {d : D} {r : Bool} (h : isTy t d = some r) : (∀ xs, d ≠ .dict xs) ∧ PySem.W.kitOne K (.type (dName d)) (.type (tyName t)) = some r := by
  cases d with
  | dict xs => cases h
  | _ => exact ⟨(fun xs z => nomatch z), (by rw [← h]; cases t <;> exact kit_ty (by rfl))⟩
theorem e_isi {t : Ty} {fa : En → Option RV} {la : List Nat} {p p2 : Pos} (ha : PE X a (tC X.K fa la)) (hs : isStar a = false) (hg : Gl X "isinstance") (hm : X.mg "isinstance" = none) (hg2 : Gl X (Str.ofString (tyName t))) (hm2 : X.mg (Str.ofString (tyName t)) = none) :
    PE X (.Call (.Name "isinstance" p) [a, .Name (Str.ofString (tyName t)) p2] [] pos) (tE X.K (fun env => (fa env).bind fun x => (isTy t x.d).map fun c => .v (.bool c)) []) := by
  have hb : bootBuiltins (Str.ofString (tyName t)) = some (.type (tyName t)) := by cases t <;> decide +kernel
  have hn : Str.ofString (tyName t) ≠ ("__name__" : Str) := by cases t <;> decide
  have hd : (Str.ofString (tyName t) == ("__debug__" : Str)) = false := by cases t <;> decide
  refine pe_mono (pe_callB call_isi hg hm (by decide +kernel) (pa_cons ha (pa_cons (pe_bltn (v := .ty (tyName t)) hg2 hm2 hb rfl hn hd) pa_nil) (star_cons hs)) (by decide) (by decide) (star_cons hs) (by rfl)) fun σ H Q ⟨Ox, Hb, env, r, R, e, k⟩ => ?_
  obtain ⟨x, e1, e2⟩ := Option.bind_eq_some_iff.mp e
  obtain ⟨c, e3, rfl⟩ := Option.map_eq_some_iff.mp e2
  obtain ⟨h1, h2⟩ := isTy_inv (K := X.K) e3
  exact ⟨Ox, Hb, env, x, R, e1, fun v H1 s1 c1 => ⟨v, .ty (tyName t), _, _, c, rfl, .ty _, ty_of c1 h1, h2, k _ H1 s1 (.bl _)⟩⟩
def rDf (K : PySem.W.Frag) (f : List D → Option RV) : List V → List V → Hp → VK → Prop := fun vs zs H Q => ∃ v z, vs = [v] ∧ zs = [z] ∧ rB K f [v, z] H Q
theorem dfF_inv {K : PySem.W.Frag} {O : Addr → Prop} {H : Hp} {g : List Int → Int} {v z : V} {ds : List D} {r : RV} (rc : RCs K O H [v, z] ds) (e : dfF g ds = some r) : ∃ a ns, v = .ref a ∧ (H a = some (.lst (ns.map V.int)) ∨ SqT K H a (ns.map V.int)) ∧
    (ns = [] → ∃ d, r = .v d ∧ ∀ O H', Rep K O H' z d) ∧ (ns ≠ [] → r = .v (.int (g ns))) := by
  cases rc with
  | cons r1 r2 =>
    cases r2 with
    | cons r2 r3 =>
      cases r3
      rename_i d x
      unfold dfF at e
      obtain ⟨xs, e1, e⟩ := Option.bind_eq_some_iff.mp e
      obtain ⟨ns, e2, e⟩ := Option.bind_eq_some_iff.mp e
      obtain ⟨a, vs, rfl, q, rr⟩ := rc_items r1 e1
      have ei := rr.intsV e2
      subst ei
      refine ⟨a, ns, rfl, ?_, fun h => ?_, fun h => ?_⟩
      · rcases q with ⟨q, _⟩ | ⟨q, _⟩
        · exact .inl q
        · exact .inr q
      · rw [if_pos h] at e
        split at e
        · cases e
          rw [rc_int r2]
          exact ⟨_, rfl, fun _ _ => .int _⟩
        · cases e
          rw [rc_none r2]
          exact ⟨_, rfl, fun _ _ => .non⟩
        · cases e
      · rw [if_neg h] at e
        cases e; rfl
theorem map_cons_inv {ns : List Int} {y : PyData} {ys : List PyData} (h : ns.map PyData.int = y :: ys) : ∃ n r, ns = n :: r ∧ y = .int n ∧ ys = r.map .int := by
  cases ns with
  | nil => cases h
  | cons n r => cases h; exact ⟨n, r, rfl, rfl, rfl⟩
theorem cr_mnd (hc : X.calm = true) (hu : X.A.units + 100 < cLine) : CallRK X (.builtin "min") [Str.ofString "default"] (rDf X.K (bF .mnd)) := by
  intro pins s σ H vs zs us ws Q I rv rz ⟨v, z, hv, hz, O, ds, r, ol, rc, e, k⟩
  subst hv hz
  obtain ⟨w1, rfl, rw1⟩ := vals1 rz
  obtain ⟨a, ns, rfl, q, h0, h1⟩ := dfF_inv rc e
  rw [Vals.ref1 rv]
  have hd : X.A.units + 1 + PyData.depthAll (ns.map PyData.int) < cLine := by rw [depth_ints]; omega
  have f0 : ns.map PyData.int = [] → ∀ h' tk, (∀ b o, s.heap.get? b = some o → h'.get? b = some o) → EP X pins σ Q w1 { s with heap := h', toks := tk } := fun z h' tk hk => by
    obtain ⟨d, rfl, hr⟩ := h0 (List.map_eq_nil_iff.mp z)
    exact ⟨_, H, I.kept hk, rw1, k _ H (Same.refl H) (hr _ _)⟩
  have f1 : ∀ (y : PyData) (ys : List PyData) (i : Nat) (v : Value) (h' : Heap) (tk : Nat) (bs : List Addr), ns.map PyData.int = y :: ys → Reads h' v (PySem.W.minD y ys) bs → (∀ b o, s.heap.get? b = some o → h'.get? b = some o) → EP X pins σ Q v { s with heap := h', toks := tk } := fun y ys i v h' tk bs e hr hk => by
    obtain ⟨n, r', rfl, rfl, rfl⟩ := map_cons_inv e
    rw [PySem.W.minD_ints] at hr
    cases hr
    have := h1 (by simp)
    subst this
    exact ⟨.int _, H, I.kept hk, ⟨_, rfl⟩, k _ H (Same.refl H) (.int _)⟩
  rcases q with q | q
  · obtain ⟨its, rv, hl, _⟩ := I.list (.inl (.inl q))
    obtain ⟨as, ra⟩ := Dp.readsAll I (ns.map PyData.int) _ its (dpAll_ints ns) rv
    exact PySem.W.min_list_default (as := as) (I.ok.hd hc) hl.isList ra (alike_ints ns) hd f0 fun y ys i v h' tk bs e _ hr hk => f1 y ys i v h' tk bs e hr hk
  · obtain ⟨its, rv, hl, _⟩ := I.tuple q
    obtain ⟨as, ra⟩ := Dp.readsAll I (ns.map PyData.int) _ its (dpAll_ints ns) rv
    exact PySem.W.min_tuple_default (as := as) (I.ok.hd hc) (show s.heap.IsTuple a its.toArray from hl) ra (alike_ints ns) hd f0 fun y ys i v h' tk bs e _ hr hk => f1 y ys i v h' tk bs e hr hk
theorem cr_mxd (hc : X.calm = true) (hu : X.A.units + 100 < cLine) : CallRK X (.builtin "max") [Str.ofString "default"] (rDf X.K (bF .mxd)) := by
  intro pins s σ H vs zs us ws Q I rv rz ⟨v, z, hv, hz, O, ds, r, ol, rc, e, k⟩
  subst hv hz
  obtain ⟨w1, rfl, rw1⟩ := vals1 rz
  obtain ⟨a, ns, rfl, q, h0, h1⟩ := dfF_inv rc e
  rw [Vals.ref1 rv]
  have hd : X.A.units + 1 + PyData.depthAll (ns.map PyData.int) < cLine := by rw [depth_ints]; omega
  have f0 : ns.map PyData.int = [] → ∀ h' tk, (∀ b o, s.heap.get? b = some o → h'.get? b = some o) → EP X pins σ Q w1 { s with heap := h', toks := tk } := fun z h' tk hk => by
    obtain ⟨d, rfl, hr⟩ := h0 (List.map_eq_nil_iff.mp z)
    exact ⟨_, H, I.kept hk, rw1, k _ H (Same.refl H) (hr _ _)⟩
  have f1 : ∀ (y : PyData) (ys : List PyData) (i : Nat) (v : Value) (h' : Heap) (tk : Nat) (bs : List Addr), ns.map PyData.int = y :: ys → Reads h' v (PySem.W.maxD y ys) bs → (∀ b o, s.heap.get? b = some o → h'.get? b = some o) → EP X pins σ Q v { s with heap := h', toks := tk } := fun y ys i v h' tk bs e hr hk => by
    obtain ⟨n, r', rfl, rfl, rfl⟩ := map_cons_inv e
    rw [PySem.W.maxD_ints] at hr
    cases hr
    have := h1 (by simp)
    subst this
    exact ⟨.int _, H, I.kept hk, ⟨_, rfl⟩, k _ H (Same.refl H) (.int _)⟩
  rcases q with q | q
  · obtain ⟨its, rv, hl, _⟩ := I.list (.inl (.inl q))
    obtain ⟨as, ra⟩ := Dp.readsAll I (ns.map PyData.int) _ its (dpAll_ints ns) rv
    exact PySem.W.max_list_default (as := as) (I.ok.hd hc) hl.isList ra (alike_ints ns) hd f0 fun y ys i v h' tk bs e _ hr hk => f1 y ys i v h' tk bs e hr hk
  · obtain ⟨its, rv, hl, _⟩ := I.tuple q
    obtain ⟨as, ra⟩ := Dp.readsAll I (ns.map PyData.int) _ its (dpAll_ints ns) rv
    exact PySem.W.max_tuple_default (as := as) (I.ok.hd hc) (show s.heap.IsTuple a its.toArray from hl) ra (alike_ints ns) hd f0 fun y ys i v h' tk bs e _ hr hk => f1 y ys i v h' tk bs e hr hk
theorem e_bik {id : String} {x : Str} {d : Expr} {p kp : Pos} {f : List D → Option RV} {fa fd : En → Option RV} {la ld : List Nat} (hcr : CallRK X (.builtin id) [Str.ofString "default"] (rDf X.K f)) (hg : Gl X x) (hm : X.mg x = none) (hv : bootBuiltins x = some (.builtin id))
    (ha : PE X a (tC X.K fa la)) (hd : PE X d (tC X.K fd ld)) (hs : isStar a = false) (hn : x ≠ ("__name__" : Str)) (hdb : (x == ("__debug__" : Str)) = false) :
    PE X (.Call (.Name x p) [a] [⟨some ("default" : Str), d, kp⟩] pos) (tE X.K (fun env => ((fa env).bind fun y => (fd env).map fun z => [y.d, z.d]).bind f) (la ++ ld)) := by
  refine pe_mono (pe_callBK hcr hg hm hv (pa_cons ha pa_nil (star_cons hs)) (pk_cons hd pk_nil) hn hdb (by rw [star_cons hs]; rfl) (by rw [star_cons hs]; rfl) (by rfl) (by rfl) (by rfl)) fun σ H Q ⟨Ox, Hb, env, r, R, e, k⟩ => ?_
  obtain ⟨ds, e1, e2⟩ := Option.bind_eq_some_iff.mp e
  obtain ⟨y, e3, e4⟩ := Option.bind_eq_some_iff.mp e1
  obtain ⟨z, e5, rfl⟩ := Option.map_eq_some_iff.mp e4
  refine ⟨Ox, Hb, env, y, R, e3, fun v H1 s1 c1 => ⟨Ox, Hb, env, z, R.ext' s1, e5, fun u H2 s2 c2 => ⟨v, u, rfl, rfl, Of Ox σ env (la ++ ld), _, r, (R.ext' (s1.trans s2)).lst, ?_, e2, fun w H3 s3 rr => k w H3 ((s1.trans s2).trans s3) (rr.back (s1.trans s2))⟩⟩⟩
  have R2 := R.ext' (s1.trans s2)
  exact .cons ((c1.ext s2 (R.ext' s1).lst).weak R2.lst (of_sub fun i z => List.mem_append_left _ z)) (.cons (c2.weak R2.lst (of_sub fun i z => List.mem_append_right _ z)) .nil)
theorem reps_rg {K : PySem.W.Frag} {O : Addr → Prop} {H : Hp} (lo : Int) : ∀ ks : List Nat, Reps K O H (ks.map fun i => V.int (lo + (i : Nat))) (ks.map fun (k : Nat) => PyData.int (lo + (k : Int)))
  | [] => .nil
  | k :: r => .cons (.int _) (reps_rg lo r)
theorem reps_rgV {K : PySem.W.Frag} {O : Addr → Prop} {H : Hp} (a b : Int) : Reps K O H (rgV a b) (rg a (b - a).toNat) := reps_rg a _
section
variable {fa fb : En → Option RV} {la lb : List Nat} {p p2 q : Pos}
theorem lrg_inv1 {x : D} {xs : List D} (e : lrgF [x] = some xs) : ∃ j, x = .int j ∧ RgOk 0 j ∧ xs = rg 0 (j - 0).toNat := by
  unfold lrgF at e
  split at e
  · rename_i j he
    split at e
    · rename_i hj
      cases e
      cases he
      have := hj.2
      unfold LIM at this
      exact ⟨_, rfl, ⟨by omega, by omega, by omega, by omega, by omega⟩, by rw [Int.sub_zero]⟩
    · cases e
  · rename_i he; cases he
  · rename_i he; cases he
  · cases e
theorem lrg_inv2 {x y : D} {xs : List D} (e : lrgF [x, y] = some xs) : ∃ i j, x = .int i ∧ y = .int j ∧ RgOk i j ∧ xs = rg i (j - i).toNat := by
  unfold lrgF at e
  split at e
  · rename_i he; cases he
  · rename_i i j he
    split at e
    · rename_i hj
      cases e
      cases he
      have := hj.2.2
      unfold LIM at this
      exact ⟨_, _, rfl, rfl, ⟨by omega, by omega, by omega, by omega, by omega⟩, rfl⟩
    · cases e
  · rename_i he; cases he
  · cases e
theorem e_lrg1 (hc : X.calm = true) (hg : Gl X "list") (hm : X.mg "list" = none) (hg2 : Gl X "range") (hm2 : X.mg "range" = none) (ha : PE X a (tC X.K fa la)) (hs : isStar a = false) :
    PE X (.Call (.Name "list" p) [.Call (.Name "range" p2) [a] [] q] [] pos) (tE X.K (fun env => (fa env).bind fun x => (lrgF [x.d]).map .l) la) :=
  pe_mono (pe_listRg hc hg hm (prg_1 hg2 hm2 ha (star_cons hs)) (by rfl)) fun σ H Q ⟨Ox, Hb, env, r, R, e, k⟩ => by
    obtain ⟨x, e1, e2⟩ := Option.bind_eq_some_iff.mp e
    obtain ⟨xs, e3, rfl⟩ := Option.map_eq_some_iff.mp e2
    obtain ⟨j, ej, ok, rfl⟩ := lrg_inv1 e3
    refine ⟨Ox, Hb, env, x, R, e1, fun v H1 s1 c1 => ?_⟩
    rw [ej] at c1
    exact ⟨j, rc_int c1, ok, fun b hb => k _ _ (s1.trans (same_new hb)) (RR.back (rr_l hb (reps_rgV 0 j) (R.ext' s1).lst) s1)⟩
theorem e_trg1 (hc : X.calm = true) (hg : Gl X "tuple") (hm : X.mg "tuple" = none) (hg2 : Gl X "range") (hm2 : X.mg "range" = none) (ha : PE X a (tC X.K fa la)) (hs : isStar a = false) :
    PE X (.Call (.Name "tuple" p) [.Call (.Name "range" p2) [a] [] q] [] pos) (tE X.K (fun env => (fa env).bind fun x => (lrgF [x.d]).map fun xs => .v (.tuple xs)) la) :=
  pe_mono (pe_tupRg hc hg hm (prg_1 hg2 hm2 ha (star_cons hs)) (by rfl)) fun σ H Q ⟨Ox, Hb, env, r, R, e, k⟩ => by
    obtain ⟨x, e1, e2⟩ := Option.bind_eq_some_iff.mp e
    obtain ⟨xs, e3, rfl⟩ := Option.map_eq_some_iff.mp e2
    obtain ⟨j, ej, ok, rfl⟩ := lrg_inv1 e3
    refine ⟨Ox, Hb, env, x, R, e1, fun v H1 s1 c1 => ?_⟩
    rw [ej] at c1
    exact ⟨j, rc_int c1, ok, fun b hb => k _ _ (s1.trans (same_new hb)) (RR.back (rr_t hb (reps_rgV 0 j) (R.ext' s1).lst) s1)⟩
theorem e_lrg2 (hc : X.calm = true) (hg : Gl X "list") (hm : X.mg "list" = none) (hg2 : Gl X "range") (hm2 : X.mg "range" = none) (ha : PE X a (tC X.K fa la)) (hb : PE X b (tC X.K fb lb)) (hs : isStar a = false) (hs2 : isStar b = false) :
    PE X (.Call (.Name "list" p) [.Call (.Name "range" p2) [a, b] [] q] [] pos) (tE X.K (fun env => (fa env).bind fun x => (fb env).bind fun y => (lrgF [x.d, y.d]).map .l) (la ++ lb)) :=
  pe_mono (pe_listRg hc hg hm (prg_2 hg2 hm2 ha hb (star_cons hs) (star_cons hs2) (by rw [star_cons hs2]; rfl)) (by rfl)) fun σ H Q ⟨Ox, Hb, env, r, R, e, k⟩ => by
    obtain ⟨x, e1, e2⟩ := Option.bind_eq_some_iff.mp e
    obtain ⟨y, e1', e2⟩ := Option.bind_eq_some_iff.mp e2
    obtain ⟨xs, e3, rfl⟩ := Option.map_eq_some_iff.mp e2
    obtain ⟨i, j, ei, ej, ok, rfl⟩ := lrg_inv2 e3
    refine ⟨Ox, Hb, env, x, R, e1, fun v H1 s1 c1 => ⟨Ox, Hb, env, y, R.ext' s1, e1', fun u H2 s2 c2 => ?_⟩⟩
    rw [ei] at c1
    rw [ej] at c2
    exact ⟨i, j, rc_int c1, rc_int c2, ok, fun b hb => k _ _ ((s1.trans s2).trans (same_new hb)) (RR.back (rr_l hb (reps_rgV i j) (R.ext' (s1.trans s2)).lst) (s1.trans s2))⟩
end
theorem flat_v {K : PySem.W.Frag} {O : Addr → Prop} {H : Hp} {v : V} {d : D} (h : RC K O H v d) (f : flatD d = true) : flatV v = true := by
  cases d with
  | none => rw [rc_none h]; rfl
  | bool b => rw [rc_bool h]; rfl
  | int b => rw [rc_int h]; rfl
  | str x => cases (show Rep K O H v (.str x) from h); rfl
  | _ => cases f
theorem eqv_flat {K : PySem.W.Frag} {O : Addr → Prop} {H : Hp} {v w : V} {d e : D} (h : RC K O H v d) (h2 : RC K O H w e) (f : flatD d = true) (f2 : flatD e = true) : eqV v w = PyData.eqv d e := by
  cases d with
  | none =>
    rw [rc_none h]
    cases e with
    | none => rw [rc_none h2]; rfl
    | bool b => rw [rc_bool h2]; rfl
    | int b => rw [rc_int h2]; rfl
    | str x => cases (show Rep K O H w (.str x) from h2); rfl
    | _ => cases f2
  | bool b =>
    rw [rc_bool h]
    cases e with
    | none => rw [rc_none h2]; rfl
    | bool b => rw [rc_bool h2]; rfl
    | int b => rw [rc_int h2]; rfl
    | str x => cases (show Rep K O H w (.str x) from h2); rfl
    | _ => cases f2
  | int b =>
    rw [rc_int h]
    cases e with
    | none => rw [rc_none h2]; rfl
    | bool b => rw [rc_bool h2]; rfl
    | int b => rw [rc_int h2]; rfl
    | str x => cases (show Rep K O H w (.str x) from h2); rfl
    | _ => cases f2
  | str x =>
    cases (show Rep K O H v (.str x) from h)
    cases e with
    | none => rw [rc_none h2]; rfl
    | bool b => rw [rc_bool h2]; rfl
    | int b => rw [rc_int h2]; rfl
    | str x => cases (show Rep K O H w (.str x) from h2); rfl
    | _ => cases f2
  | _ => cases f
theorem fdx_inv {d : D} : ∀ {xs : List D} {j : Nat}, fdx d xs = some j → ∃ x, xs[j]? = some x ∧ PyData.eqv x d = true ∧ ∀ m y, m < j → xs[m]? = some y → PyData.eqv y d = false
  | [], _, h => by cases h
  | x :: r, j, h => by
    unfold fdx at h
    split at h
    · rename_i q; cases h; exact ⟨x, rfl, q, fun m y hm => by omega⟩
    · rename_i q
      obtain ⟨i, e1, rfl⟩ := Option.map_eq_some_iff.mp h
      obtain ⟨y, a, b, c⟩ := fdx_inv e1
      refine ⟨y, by simpa using a, b, fun m z hm hz => ?_⟩
      cases m with
      | zero => cases hz; simpa using q
      | succ m => exact c m z (by omega) (by simpa using hz)
theorem all_flat {K : PySem.W.Frag} {O : Addr → Prop} {H : Hp} : ∀ {vs : List V} {xs : List D}, Reps K O H vs xs → xs.all flatD = true → vs.all flatV = true
  | _, _, .nil, _ => rfl
  | _, _, .cons r t, h => by
    rw [List.all_cons, Bool.and_eq_true] at h
    rw [List.all_cons, flat_v (Rep.rc r) h.1, all_flat t h.2]; rfl
theorem e_idx {fa fd : En → Option RV} {la ld : List Nat} {d : Expr} {apos cpos : Pos} (ha : PE X a (tC X.K fa la)) (hd : PE X d (tC X.K fd ld)) (hs : isStar d = false) (hb : attributeBase a "index" X.env (eval a X.env) = eval a X.env) (hline : (apos.endLine == cpos.line) = true) :
    PE X (.Call (.Attribute a "index" apos) [d] [] cpos) (tE X.K (fun env => (fa env).bind fun x => (fd env).bind fun y => idxF [x.d, y.d]) (la ++ ld)) :=
  pe_mono (pe_bm PySem.F.plainAttrs_list PySem.F.slot_list_index PySem.F.type_list_index mt_index ha (pa_cons hd pa_nil (star_cons hs)) hb (by rw [star_cons hs]; rfl) hline (star_cons hs) (by rfl)) fun σ H Q ⟨Ox, Hb, env, r, R, e, k⟩ => by
    obtain ⟨x, e1, e2⟩ := Option.bind_eq_some_iff.mp e
    obtain ⟨y, e1', e2⟩ := Option.bind_eq_some_iff.mp e2
    refine ⟨Ox, Hb, env, x, R, e1, fun v H1 s1 c1 => ?_⟩
    unfold idxF at e2
    split at e2
    · rename_i xs dd he
      injection he with hx he2
      injection he2 with hy _
      split at e2
      · rename_i hf
        obtain ⟨j, e3, rfl⟩ := Option.map_eq_some_iff.mp e2
        obtain ⟨w, f1, f2, f3⟩ := fdx_inv e3
        have c1' := c1
        rw [hx] at c1
        obtain ⟨p, vs, rfl, q, rr⟩ := c1
        refine ⟨.inl ⟨rfl, vs, .inl (.inl q)⟩, Ox, Hb, env, y, R.ext' s1, e1', fun u H2 s2 c2 => ?_⟩
        have c2' := c2
        rw [hy] at c2
        have R2 := R.ext' (s1.trans s2)
        have rr2 := reps_ext s2 (R.ext' s1).lst rr
        obtain ⟨z, z1, z2⟩ := rr2.get f1
        have weak : ∀ {v : V} {d : D}, RC X.K (Of Ox σ env la) H2 v d → RC X.K (Of Ox σ env (la ++ ld)) H2 v d := fun h => h.weak R2.lst (of_sub fun i z => List.mem_append_left _ z)
        have c2w : RC X.K (Of Ox σ env (la ++ ld)) H2 u dd := c2.weak R2.lst (of_sub fun i z => List.mem_append_right _ z)
        have fl : ∀ {m : Nat} {w : D}, xs[m]? = some w → flatD w = true := fun h => List.all_eq_true.mp hf.2 _ (List.mem_of_getElem? h)
        refine ⟨p, vs, u, j, z, rfl, rfl, .inl (.inl (s2 _ _ q)), flat_v c2 hf.1, all_flat rr2 hf.2, z1, ?_, fun m z' hm hz' => ?_, k _ _ (s1.trans s2) (.int _)⟩
        · rw [eqv_flat (weak (Rep.rc z2)) c2w (fl f1) hf.1]; exact f2
        · obtain ⟨w', w1, w2⟩ := rr2.getV hz'
          rw [eqv_flat (weak (Rep.rc w2)) c2w (fl w1) hf.1]
          exact f3 m w' hm w1
      · cases e2
    · cases e2
def rCntF (K : PySem.W.Frag) : V → List V → Hp → VK → Prop := fun x xs H Q => ∃ (p : Addr) (ys : List V) (y : V), x = .ref p ∧ xs = [y] ∧ SqL K H p ys ∧ flatV y = true ∧ ys.all flatV = true ∧ Q (.int ((ys.countP fun z => eqV z y : Nat) : Int)) H
theorem cnt_eqU {x : V} : ∀ {xs : List V} {us : List Value}, Vals xs us → xs.all flatV = true → us.countP (eqU x) = xs.countP fun y => eqV y x
  | _, _, .nil, _ => rfl
  | y :: xs, u :: us, .cons r t, f => by
    rw [List.all_cons, Bool.and_eq_true] at f
    rw [List.countP_cons, List.countP_cons, eqU_of r f.1, cnt_eqU t f.2]
theorem mt_cntF : MtR X "list.count" (rCntF X.K) := by
  intro pins s σ H x xs v us Q I rx rxs h
  obtain ⟨p, ys, y, rfl, rfl, hs, fy, fs, q⟩ := h
  cases rx
  obtain ⟨u, rfl, ru⟩ := rxs.one
  obtain ⟨its, rv, ⟨⟨cls, dd, data, sl⟩, n, ho, hc, hdn, hd⟩, hlen⟩ := I.list hs
  simp only at hc hd
  subst hc hd
  refine call_meets PySem.F.slot_list_count ⟨_, ho, rfl⟩ PySem.F.entry_list_count (PySem.F.args_list_count_2 _ _)
    (SeqAt.list_countAt p its.toArray n dd sl u (eqU y)) ⟨ho, fun w hw => mem_eqAt ru fy rv fs w (by simpa using hw), ?_⟩
  refine ⟨.int ((ys.countP fun z => eqV z y : Nat) : Int), H, I.tok _, ⟨s.toks, ?_⟩, q⟩
  show Value.int ((its.toArray.toList.countP (eqU y) : Nat) : Int) s.toks = _
  rw [show its.toArray.toList = its by simp, cnt_eqU rv fs]
theorem cnt_flat {K : PySem.W.Frag} {O : Addr → Prop} {H : Hp} {v : V} {d : D} (h : RC K O H v d) (f : flatD d = true) : ∀ {vs : List V} {xs : List D}, Reps K O H vs xs → xs.all flatD = true → (vs.countP fun z => eqV z v) = xs.countP fun z => PyData.eqv z d
  | _, _, .nil, _ => rfl
  | _, _, .cons r t, g => by
    rw [List.all_cons, Bool.and_eq_true] at g
    rw [List.countP_cons, List.countP_cons, cnt_flat h f t g.2, eqv_flat (Rep.rc r) h g.1 f]
theorem e_cnt {fa fd : En → Option RV} {la ld : List Nat} {d : Expr} {apos cpos : Pos} (ha : PE X a (tC X.K fa la)) (hd : PE X d (tC X.K fd ld)) (hs : isStar d = false) (hb : attributeBase a "count" X.env (eval a X.env) = eval a X.env) (hline : (apos.endLine == cpos.line) = true) :
    PE X (.Call (.Attribute a "count" apos) [d] [] cpos) (tE X.K (fun env => (fa env).bind fun x => (fd env).bind fun y => cntF [x.d, y.d]) (la ++ ld)) :=
  pe_mono (pe_bm PySem.F.plainAttrs_list PySem.F.slot_list_count PySem.F.type_list_count mt_cntF ha (pa_cons hd pa_nil (star_cons hs)) hb (by rw [star_cons hs]; rfl) hline (star_cons hs) (by rfl)) fun σ H Q ⟨Ox, Hb, env, r, R, e, k⟩ => by
    obtain ⟨x, e1, e2⟩ := Option.bind_eq_some_iff.mp e
    obtain ⟨y, e1', e2⟩ := Option.bind_eq_some_iff.mp e2
    refine ⟨Ox, Hb, env, x, R, e1, fun v H1 s1 c1 => ?_⟩
    unfold cntF at e2
    split at e2
    · rename_i xs dd he
      injection he with hx he2
      injection he2 with hy _
      split at e2
      · rename_i hf
        cases e2
        rw [hx] at c1
        obtain ⟨p, vs, rfl, q, rr⟩ := c1
        refine ⟨.inl ⟨rfl, vs, .inl (.inl q)⟩, Ox, Hb, env, y, R.ext' s1, e1', fun u H2 s2 c2 => ?_⟩
        rw [hy] at c2
        have R2 := R.ext' (s1.trans s2)
        have rr2 := reps_ext s2 (R.ext' s1).lst rr
        have c2w : RC X.K (Of Ox σ env (la ++ ld)) H2 u dd := c2.weak R2.lst (of_sub fun i z => List.mem_append_right _ z)
        have rr2w : Reps X.K (Of Ox σ env (la ++ ld)) H2 vs xs := reps_weak R2.lst (of_sub fun i z => List.mem_append_left _ z) rr2
        refine ⟨p, vs, u, rfl, rfl, .inl (.inl (s2 _ _ q)), flat_v c2 hf.1, all_flat rr2 hf.2, ?_⟩
        rw [cnt_flat c2w hf.1 rr2w hf.2]
        exact k _ _ (s1.trans s2) (.int _)
      · cases e2
    · cases e2
end

section
variable {prog : Program} {w : World} {A : Around} {E : Value → Shared → Prop} {s : Shared}
theorem en_step {e it : Addr} {i : Nat} {old : Value} {Q : Option Value → Shared → Prop} {W : Value → Heap → Prop} (ge : IsEnum s.heap e it i old)
    (inner : ∀ (Q' : Value → Shared → Prop) (E' : Value → Shared → Prop), (∀ x k1, k1.get? e = s.heap.get? e → W x k1 → Q' x { s with heap := k1 }) → wpAny (model prog w) A.in1 (Builtin.SmallTypes.nextOf (.ref it)) Q' E' s)
    (fin : ∀ x k1 k', W x k1 → IsEnumOut k' e it ((i : Int) + 1) x k1.objs.size → k'.get? k1.objs.size = some { cls := .type "tuple", data := .seq #[.int i s.toks, x] } → k'.objs.size = k1.objs.size + 1 →
      (∀ b o, b ≠ e → k1.get? b = some o → k'.get? b = some o) → Q (some (.ref k1.objs.size)) { s with heap := k', toks := s.toks + 1 }) :
    wpAny (model prog w) A (pyNext (.ref e)) Q E s := by
  obtain ⟨hp, g, d, tk, os⟩ := s
  have gT : Shared.TypeIs ⟨hp, g, d, tk, os⟩ (.ref e) "enumerate" := ⟨_, ge, rfl⟩
  unfold pyNext
  refine wpAny_bind (wpAny_attempt (wpAny_callSpecial?_slot (name := Str.ofString "__next__") gT F.slot_enumerate_next
    (wpAny_call_entry F.slot_enumerate_next gT F.entry_enumerate_next ?_ (F.args_enumerate_next_1 _))))
  show wpAny _ _ (field (.ref e) 2 >>= _) _ _ ⟨hp, g, d, tk, os⟩
  refine wpAny_bind (wpAny_field ge rfl (x := .ref it) rfl (wpAny_bind (inner _ _ fun x k1 ke hW => ?_)))
  have g1 : IsEnum k1 e it i old := ke.trans ge
  have ge1 : e < k1.objs.size := Heap.lt_size g1
  show wpAny _ _ (field (.ref e) 3 >>= _) _ _ ⟨k1, g, d, tk, os⟩
  refine wpAny_bind (wpAny_field g1 rfl (x := rawInt i) rfl ?_)
  show wpAny _ _ (field (.ref e) 4 >>= _) _ _ ⟨k1, g, d, tk, os⟩
  refine wpAny_bind (wpAny_field g1 rfl (x := .none) rfl ?_)
  show wpAny _ _ (mkInt i >>= _) _ _ ⟨k1, g, d, tk, os⟩
  refine wpAny_bind (wpAny_mkInt ?_)
  show wpAny _ _ (setField (.ref e) 3 (rawInt ((i : Int) + 1)) >>= _) _ _ ⟨k1, g, d, tk + 1, os⟩
  refine wpAny_bind (wpAny_setField_rec g1 (by simp) fun k2 g2 b2 => ?_)
  have g2 : IsEnum k2 e it ((i : Int) + 1) old := g2
  have b2 : Heap.SameBut e k1 k2 := b2
  show wpAny _ _ (setField (.ref e) 4 .none >>= _) _ _ ⟨k2, g, d, tk + 1, os⟩
  refine wpAny_bind (wpAny_setField_rec g2 (by simp) fun k3 g3 b3 => ?_)
  have g3 : IsEnum k3 e it ((i : Int) + 1) old := g3
  have b3 : Heap.SameBut e k2 k3 := b3
  show wpAny _ _ (newTuple [.int i tk, x] >>= _) _ _ ⟨k3, g, d, tk + 1, os⟩
  refine wpAny_bind (wpAny_newTuple ?_)
  have z3 : k3.objs.size = k1.objs.size := by rw [b3.1, b2.1]
  show wpAny _ _ (Builtin.SmallTypes.ownedTupleIsFree (.ref e) >>= _) _ _ ⟨k3.push _, g, d, tk + 1, os⟩
  have t4 : (k3.push { cls := .type "tuple", data := .seq #[.int i tk, x] }).get? k1.objs.size = some { cls := .type "tuple", data := .seq #[.int i tk, x] } := by
    rw [← z3]; exact Heap.get?_push_size _ rfl
  have z4 : (k3.push { cls := .type "tuple", data := .seq #[.int i tk, x] }).objs.size = k1.objs.size + 1 := by rw [Heap.size_push, z3]
  have g4 : IsEnum (k3.push { cls := .type "tuple", data := .seq #[.int i tk, x] }) e it ((i : Int) + 1) old := Heap.get?_push_of_some _ g3
  have q4 : ∀ b o, b ≠ e → k1.get? b = some o → (k3.push { cls := .type "tuple", data := .seq #[.int i tk, x] }).get? b = some o := fun b o n y =>
    Heap.get?_push_of_some _ (b3.extBut b o n (b2.extBut b o n y))
  rw [z3]
  generalize k3.push { cls := .type "tuple", data := .seq #[.int i tk, x] } = k4 at *
  refine wpAny_bind ?_
  unfold Builtin.SmallTypes.ownedTupleIsFree
  refine wpAny_bind (wpAny_field g4 rfl (x := .none) rfl (wpAny_pure ?_))
  simp only [if_true]
  refine wpAny_bind (wpAny_rule (wpAny_bind (wpAny_field g4 rfl (x := old) rfl ?_)))
  refine wpAny_bind (wpAny_setField_rec g4 (by simp) fun k5 g5 b5 => ?_)
  have g5 : IsEnum k5 e it ((i : Int) + 1) x := g5
  have b5 : Heap.SameBut e k4 k5 := b5
  show wpAny _ _ (Builtin.SmallTypes.ownedTupleHandOut (.ref e) (.ref k1.objs.size) >>= _) _ _ ⟨k5, g, d, tk + 1, os⟩
  refine wpAny_bind ?_
  unfold Builtin.SmallTypes.ownedTupleHandOut
  refine wpAny_bind (wpAny_setField_rec g5 (by simp) fun k6 g6 b6 => ?_)
  have g6 : IsEnumOut k6 e it ((i : Int) + 1) x k1.objs.size := g6
  have b6 : Heap.SameBut e k5 k6 := b6
  refine wpAny_setField_rec g6 (by simp) fun k7 g7 b7 => ?_
  have g7 : IsEnumOut k7 e it ((i : Int) + 1) x k1.objs.size := g7
  have b7 : Heap.SameBut e k6 k7 := b7
  have up : ∀ b o, b ≠ e → k4.get? b = some o → k7.get? b = some o := fun b o n y => b7.extBut b o n (b6.extBut b o n (b5.extBut b o n y))
  refine wpAny_bind (wpAny_letGo (wpAny_pure ⟨_, rfl, ?_⟩))
  refine wpAny_pure (fin x k1 k7 hW g7 (up _ _ (Nat.ne_of_gt ge1) t4) ?_ fun b o n y => up b o n (q4 b o n y))
  rw [b7.1, b6.1, b5.1, z4]
theorem en_stop {e it : Addr} {i : Int} {old : Value} {Q : Option Value → Shared → Prop} {W : Heap → Prop} (ge : IsEnum s.heap e it i old)
    (inner : ∀ (Q' : Value → Shared → Prop) (E' : Value → Shared → Prop), (∀ k x, W k → (∃ o, k.get? x = some o ∧ o.cls = .type "StopIteration") → E' (.ref x) { s with heap := k }) → wpAny (model prog w) A.in1 (Builtin.SmallTypes.nextOf (.ref it)) Q' E' s)
    (fin : ∀ k, W k → Q none { s with heap := k }) : wpAny (model prog w) A (pyNext (.ref e)) Q E s := by
  have gT : s.TypeIs (.ref e) "enumerate" := ⟨_, ge, rfl⟩
  unfold pyNext
  refine wpAny_bind (wpAny_attempt (wpAny_callSpecial?_slot (name := Str.ofString "__next__") gT F.slot_enumerate_next
    (wpAny_call_entry F.slot_enumerate_next gT F.entry_enumerate_next ?_ (F.args_enumerate_next_1 _))))
  show wpAny _ _ (field (.ref e) 2 >>= _) _ _ _
  refine wpAny_bind (wpAny_field ge rfl (x := .ref it) rfl (wpAny_bind (inner _ _ fun k x hW ⟨o, ho, hc⟩ => ?_)))
  refine wpAny_bind (wpAny_isInstance (T := "StopIteration") (b := true) ⟨o, ho, hc⟩ isSubtype_stop (wpAny_pure (fin k hW)))
/-- enumerate(v), v its own iterator -/
theorem en_meets2 {v : Value} {Hh : Heap → Prop} (B : ∀ (prog : Program) (w : World) (A : Around) (E : Value → Shared → Prop) (s : Shared) (Q : Value → Shared → Prop), Hh s.heap → Q v s → wpAny (model prog w) A (pyIter v) Q E s) :
    Meets (Builtin.«enumerate.__new__» ⟨[.type "enumerate", v], []⟩) (fun _ R s => Hh s.heap ∧
      R (.ok (.ret (.ref s.heap.objs.size))) { s with heap := s.heap.push { cls := .type "enumerate", data := .fields #[.none, .bool false, v, rawInt 0, .none, .none] } }) :=
  .of_wp fun prog w A R s h => by
    obtain ⟨hp, g, d, tk, os⟩ := s
    obtain ⟨h1, h⟩ := h
    have hsub := sub_enumerate
    have q1 : ∀ {A' : Around} {E : Value → Shared → Prop} {Q : Value → Shared → Prop}, Q v ⟨hp, g, d, tk, os⟩ → wpAny (model prog w) A' (pyIter v) Q E ⟨hp, g, d, tk, os⟩ :=
      fun q => B prog w _ _ ⟨hp, g, d, tk, os⟩ _ h1 q
    wp_walk using q1
    refine wpAny_stack_any fun st => wpAny_pure ?_
    split
    · rename_i c _ _ _ _ _
      cases (c == Value.type "enumerate") <;> (wp_walk using q1; exact ⟨_, rfl, h⟩)
    · wp_walk using q1
      exact ⟨_, rfl, h⟩
theorem en_call2 {it : Addr} {Hh : Heap → Prop} {Q : Value → Shared → Prop} (B : ∀ (prog : Program) (w : World) (A : Around) (E : Value → Shared → Prop) (s : Shared) (Q : Value → Shared → Prop), Hh s.heap → Q (.ref it) s → wpAny (model prog w) A (pyIter (.ref it)) Q E s) (h1 : Hh s.heap)
    (h : ∀ k, IsEnum k s.heap.objs.size it 0 .none → (∀ b o, s.heap.get? b = some o → k.get? b = some o) → Q (.ref s.heap.objs.size) { s with heap := k }) :
    wpAny (model prog w) A (call (.type "enumerate") [.ref it]) Q E s := by
  refine callType_new F.called_enumerate (by decide) (F.typeCall_enumerate_1 _) (F.newCall_enumerate_1 _) (fun obj => F.args_object_init_2 obj _) F.entry_enumerate_new (en_meets2 B) ⟨h1, ?_⟩
  have he := Heap.get?_push_size s.heap (o := { cls := .type "enumerate", data := .fields #[.none, .bool false, .ref it, rawInt 0, .none, .none] }) rfl
  exact ⟨⟨_, he, rfl⟩, h _ he fun b o x => Heap.get?_push_of_some _ x⟩
end
section
variable {prog : Program} {w : World} {A : Around} {E : Value → Shared → Prop} {s : Shared}
theorem no_rev_item {it l : Addr} {i : Nat} {items : Array Value} {x : Value} {Q : Value → Shared → Prop} (gi : s.heap.IsRevIter it l (i : Int)) (gl : s.heap.IsList l items) (gx : items[i]? = some x)
    (fin : ∀ k, k.IsRevIter it l ((i : Int) - 1) → Heap.SameBut it s.heap k → Q x { s with heap := k }) : wpAny (model prog w) A (Builtin.SmallTypes.nextOf (.ref it)) Q E s := by
  obtain ⟨o, go, gc, gd⟩ := id gi
  obtain ⟨ol, gol, _, nl, gdl⟩ := gl
  unfold Builtin.SmallTypes.nextOf
  refine wpAny_bind (wpAny_callSpecial?_slot (name := Str.ofString "__next__") gi.typeIs F.slot_lri_next
    (wpAny_call_entry F.slot_lri_next gi.typeIs F.entry_lri_next ?_ (F.args_lri_next_1 _)))
  unfold Builtin.«list_reverseiterator.__next__»
  refine wpAny_bind (wpAny_of_eq (a := (Value.ref it, [])) rfl ?_)
  try dsimp only
  refine wpAny_bind (wpAny_field go gd (x := rawInt (i : Int)) rfl ?_)
  show wpAny _ _ (if (i : Int) < 0 then _ else _) _ _ s
  rw [if_neg (by omega)]
  show wpAny _ _ (field (.ref it) 0 >>= _) _ _ s
  refine wpAny_bind (wpAny_field go gd (x := .ref l) rfl (show wpAny _ _ (seqItems? (.ref l) >>= _) _ _ s from wpAny_bind (wpAny_seqItems gol gdl ?_)))
  simp only [Int.toNat_natCast, gx]
  refine wpAny_bind (wpAny_setField go gd (by simp) ?_)
  first
  | refine wpAny_pure ⟨x, rfl, wpAny_pure (fin _ ?_ (Heap.SameBut.update ..))⟩
  | refine wpAny_bind (wpAny_pure (wpAny_pure ⟨x, rfl, wpAny_pure (fin _ ?_ (Heap.SameBut.update ..))⟩))
  exact ⟨_, Heap.get?_update_self _ go (Obj.isFreed_of_fields (Obj.data_mapFields gd _)), (Obj.cls_mapFields ..).trans gc, by
    rw [Obj.data_mapFields gd]; simp⟩
theorem no_rev_end {it l : Addr} {Q : Value → Shared → Prop} (hh : A.handled = none) (gi : s.heap.IsRevIter it l (-1))
    (fin : ∀ k x, Heap.ExtBut it s.heap k → (∃ o, k.get? x = some o ∧ o.cls = .type "StopIteration") → E (.ref x) { s with heap := k }) : wpAny (model prog w) A (Builtin.SmallTypes.nextOf (.ref it)) Q E s := by
  obtain ⟨o, go, gc, gd⟩ := id gi
  unfold Builtin.SmallTypes.nextOf
  refine wpAny_bind (wpAny_callSpecial?_slot (name := Str.ofString "__next__") gi.typeIs F.slot_lri_next
    (wpAny_call_entry F.slot_lri_next gi.typeIs F.entry_lri_next ?_ (F.args_lri_next_1 _)))
  unfold Builtin.«list_reverseiterator.__next__»
  refine wpAny_bind (wpAny_of_eq (a := (Value.ref it, [])) rfl ?_)
  try dsimp only
  refine wpAny_bind (wpAny_field go gd (x := rawInt (-1)) rfl ?_)
  show wpAny _ _ (if (-1 : Int) < 0 then _ else _) _ _ s
  rw [if_pos (by decide)]
  refine wpAny_bind (wpAny_rule ?_)
  first
  | show wpAny _ _ (newExc (.type "StopIteration") [] >>= _) _ _ _
  | (refine wpAny_bind ?_; show wpAny _ _ (newExc (.type "StopIteration") [] >>= _) _ _ _)
  refine wpAny_bind ?_
  simp only [newExc, newTuple]
  refine wpAny_bind (wpAny_newObj_type ?_ (by size_fits))
  refine wpAny_bind (m := firstArgMember _ _) (wpAny_of_eq (a := Value.none) (by first | rfl | (simp only [firstArgMember]; rfl)) (wpAny_newObj_type ?_ (by size_fits)))
  simp only [raiseNew]
  refine wpAny_bind (wpAny_handled ?_)
  first | rw [show A.in1.handled = none from hh] | rw [hh]
  exact wpAny_bind (wpAny_pure (wpAny_throw (fin _ _ (((Heap.ExtBut.refl _ _).push _).push _) ⟨_, Heap.get?_push_size _ rfl, rfl⟩)))
end
def IteR (K : PySem.W.Frag) (a : Addr) (n : Nat) : It where
  go := fun i H => i < n ∧ ∃ (xs : List V) (x : V), SqL K H a xs ∧ xs[n - 1 - i]? = some x
  yld := fun i H v H' => ∃ T x, v = .ref T ∧ H T = none ∧ H' = upd H T (.tup [.int (i : Nat), x]) ∧ ∀ xs, SqL K H a xs → xs[n - 1 - i]? = some x
  stop := fun i _ => n ≤ i
theorem turn_enumR {P : Program} {w : World} {K : PySem.W.Frag} {elts : List Expr} {kk : Nat} {tpos : Pos} (a e it : Addr) (n : Nat) :
    Turn P w K (.Tuple elts kk tpos) (IteR K a n) [e, it] e (fun i h => i ≤ n ∧ (∃ old, IsEnum h e it ((i : Nat) : Int) old) ∧ h.IsRevIter it a ((n : Int) - 1 - (i : Nat)) ∧ e ≠ it) where
  mem := by simp
  obj := fun i h ⟨_, ⟨old, he⟩, ⟨o, ho, _, hd⟩, _⟩ b hb => by
    rcases (show b = e ∨ b = it by simpa using hb) with rfl | rfl
    · exact ⟨_, he, fun v q => nomatch q⟩
    · exact ⟨o, ho, fun v q => by rw [hd] at q; cases q⟩
  keep := fun i h h' ⟨hn, ⟨old, he⟩, hi, hne⟩ k => ⟨hn, ⟨old, k e (by simp) _ he⟩, hi.at fun o q => k it (by simp) o q, hne⟩
  item := by
    intro X hP hw hK hc i pins s σ H E I hf st hg
    subst hP hw hK
    obtain ⟨_, ⟨old, he⟩, hit, hne⟩ := st
    obtain ⟨hin, xs, x, hq, hx⟩ := hg
    obtain ⟨its, rv, p, hz⟩ := I.list hq
    obtain ⟨u, hu, ru⟩ := rv.get hx
    have hel : e < s.heap.objs.size := Heap.lt_size he
    have e1 : (n : Int) - 1 - ((i : Nat) : Int) = ((n - 1 - i : Nat) : Int) := by omega
    rw [e1] at hit
    refine en_step (W := fun x k => x = u ∧ k.IsRevIter it a (((n - 1 - i : Nat) : Int) - 1) ∧ Heap.SameBut it s.heap k) he (fun Q' E' q => no_rev_item hit p.isList (x := u) (by simpa using hu) fun k gk sb => q u k (sb.2 e hne) ⟨rfl, gk, sb⟩) ?_
    rintro u k1 k' ⟨rfl, gk, sb⟩ ho hT hsz hk
    have e0 : k1.objs.size = s.heap.objs.size := sb.1
    rw [e0] at ho hT hsz ⊢
    refine ⟨_, rfl, wpAny_letOwnedTupleGo_enum (s := { s with heap := k', toks := s.toks + 1 }) ho fun k'' he' sb2 => ?_⟩
    have hT2 := (sb2.2 _ (Nat.ne_of_gt hel)).trans hT
    have I1 : Inv X pins σ (upd H s.heap.objs.size (.tup [.int (i : Nat), x])) { s with heap := k'', toks := s.toks + 1 } :=
      I.turnedNew (ch := [e, it]) (fun b ob hb q => (sb2.2 b (fun z => hb (by simp [z]))).trans (hk b ob (fun z => hb (by simp [z])) (sb.extBut b ob (fun z => hb (by simp [z])) q))) hf (Nat.le_refl _)
        ⟨by show 2 ≤ sizeLine; decide, [.int i s.toks, u], .cons ⟨_, rfl⟩ (.cons ru .nil), ⟨_, hT2, rfl, _, rfl⟩⟩
    have gk2 : k''.IsRevIter it a ((n : Int) - 1 - ((i + 1 : Nat) : Int)) := by
      rw [show (n : Int) - 1 - ((i + 1 : Nat) : Int) = ((n - 1 - i : Nat) : Int) - 1 by omega]
      exact gk.at fun o q => (sb2.2 it (Ne.symm hne)).trans (hk it o (Ne.symm hne) q)
    refine ⟨.ref s.heap.objs.size, _, I1, rfl, ⟨_, x, rfl, I.hok.fresh (Nat.le_refl _), rfl, fun ys hy => by rw [I.list_inj hy hq]; exact hx⟩, ⟨hin, ⟨u, ?_⟩, gk2, hne⟩, fun b hb => ?_⟩
    · rw [show ((i + 1 : Nat) : Int) = (i : Int) + 1 by omega]; exact he'
    · have hb' : b < s.heap.objs.size := by
        rcases (show b = e ∨ b = it by simpa using hb) with rfl | rfl
        · exact hel
        · obtain ⟨_, q, _⟩ := hit; exact Heap.lt_size q
      rw [upd_ne (Nat.ne_of_lt hb')]
      exact (hf b hb).1
  done := by
    intro X hP hw hK hc i pins s σ H E I hf st hg
    subst hP hw hK
    obtain ⟨hin, ⟨old, he⟩, hit, hne⟩ := st
    have hge : n ≤ i := hg
    have e1 : (n : Int) - 1 - ((i : Nat) : Int) = -1 := by omega
    rw [e1] at hit
    obtain ⟨f0, f1, f2, f3, f4, f5⟩ := hf it (by simp)
    exact en_stop (W := fun k => Heap.ExtBut it s.heap k) he (fun Q' E' q => no_rev_end (I.ok.hd hc) hit fun k x eb z => q k x eb z) fun k eb => ⟨rfl, I.turned (t' := s.toks) (fun b o hb q => eb b o hb q) f0 f1 f3 f4 f5⟩
  self := fun A i s Q E ⟨_, ⟨_, he⟩, _⟩ h => wpAny_pyIter_enum he h
def iEnumR (K : PySem.W.Frag) (te : TE) : TI := fun σ H R => te σ H fun v H1 => ∃ (a : Addr) (xs : List V), v = .ref a ∧ SqL K H1 a xs ∧ R (IteR K a xs.length) H1
theorem pi_enumR {X : Cx} {e : Expr} {te : TE} {p p2 pos pos2 tpos : Pos} {elts : List Expr} {kk : Nat} (hg : Gl X "enumerate") (hm : X.mg "enumerate" = none) (hg2 : Gl X "reversed") (hm2 : X.mg "reversed" = none) (he : PE X e te) (hs : starEach [e] X.env = (false, eval e X.env) :: starEach [] X.env := by rfl) :
    PI X (.Tuple elts kk tpos) (.Call (.Name "enumerate" p) [.Call (.Name "reversed" p2) [e] [] pos2] [] pos) (iEnumR X.K te) := by
  refine ⟨fun pins s σ H R I h => ?_⟩
  have hs2 : starEach [Expr.Call (.Name "reversed" p2) [e] [] pos2] X.env = (false, eval (Expr.Call (.Name "reversed" p2) [e] [] pos2) X.env) :: starEach [] X.env := by rfl
  refine Call_ (ld_blt I hg hm boot_enumerate (PyProof.Rows.callWith_type1 (args_cons (Call_ (ld_blt I hg2 hm2 PyProof.Rows.boot_reversed (PyProof.Rows.callWith_type1 (args_cons (thn (he.run pins s σ H _ I h) fun u s1 ⟨v, H1, I1, r1, q1⟩ => args_nil ?_) hs) hs rfl))) hs2) hs2 rfl))
  obtain ⟨a, xs, ev, hq, q⟩ := q1
  subst ev
  obtain rfl : u = Value.ref a := r1
  obtain ⟨its, rv, p', hz⟩ := I1.list hq
  have hl := rv.length
  have e1 : ((its.toArray.size : Nat) : Int) - 1 = (xs.length : Int) - 1 - ((0 : Nat) : Int) := by simp only [List.size_toArray]; omega
  refine call_reversed_list p'.isList (args_nil ?_)
  have hrev : (s1.heap.push (revObj a (((its.toArray.size : Nat) : Int) - 1))).IsRevIter s1.heap.objs.size a (((its.toArray.size : Nat) : Int) - 1) := ⟨_, Heap.get?_push_size _ rfl, rfl, rfl⟩
  have hsz1 : (s1.heap.push (revObj a (((its.toArray.size : Nat) : Int) - 1))).objs.size = s1.heap.objs.size + 1 := Heap.size_push ..
  refine en_call2 (Hh := fun h => h.IsRevIter s1.heap.objs.size a (((its.toArray.size : Nat) : Int) - 1)) (fun _ _ _ _ _ _ z k => wpAny_pyIter_revIter z k) hrev fun k hk kk' => ?_
  replace hk : IsEnum k (s1.heap.push (revObj a (((its.toArray.size : Nat) : Int) - 1))).objs.size s1.heap.objs.size 0 .none := hk
  show wpAny _ _ (pyIter (.ref (s1.heap.push (revObj a (((its.toArray.size : Nat) : Int) - 1))).objs.size)) _ _ _
  rw [hsz1] at hk ⊢
  refine wpAny_pyIter_enum hk ?_
  have I2 : Inv X pins σ H1 { s1 with heap := k } := I1.kept (t' := s1.toks) fun b o z => kk' b o (Heap.get?_push_of_some _ z)
  refine ⟨s1.heap.objs.size + 1, [s1.heap.objs.size + 1, s1.heap.objs.size], _, _, H1, rfl, I2, turn_enumR a (s1.heap.objs.size + 1) s1.heap.objs.size xs.length, ⟨Nat.zero_le _, ⟨.none, hk⟩, ?_, Nat.succ_ne_self _⟩, fun b hb => ?_, q⟩
  · rw [← e1]; exact hrev.at fun o z => kk' _ o z
  · have hle : s1.heap.objs.size ≤ b := by
      rcases (show b = s1.heap.objs.size + 1 ∨ b = s1.heap.objs.size by simpa using hb) with rfl | rfl <;> omega
    exact I1.fpOk hle (I1.hok.fresh hle)
abbrev ZF (h : Heap) (z TI TO : Addr) (f0 : Value) (f : Bool) : Prop :=
  h.get? z = some { cls := .type "zip", dict := none, data := .fields #[f0, .bool f, .bool false, .ref TI, .ref TO], slots := #[] }
section
variable {prog : Program} {w : World} {A : Around} {E : Value → Shared → Prop} {s : Shared} {z TI TO i1 i2 l1 l2 : Addr} {k1 k2 : Nat} {xs ys : Array Value} {x y a b f0 : Value} {f : Bool}
theorem zn_free_item {Q : Value → Shared → Prop} (D : ZipApart z TI TO i1 i2 l1 l2)
    (gf : ∀ {A' : Around} {E' : Value → Shared → Prop} {Q' : Bool → Shared → Prop}, Q' true s → wpAny (model prog w) A' (Builtin.SmallTypes.ownedTupleIsFree (.ref z)) Q' E' s)
    (gz : ZF s.heap z TI TO f0 f) (gI : IsPair s.heap TI (.ref i1) (.ref i2)) (gO : IsPair s.heap TO a b)
    (g1 : s.heap.IsListIter i1 l1 k1) (g2 : s.heap.IsListIter i2 l2 k2) (q1 : s.heap.IsList l1 xs) (q2 : s.heap.IsList l2 ys) (gx : xs[k1]? = some x) (gy : ys[k2]? = some y)
    (fin : ∀ k, ZF k z TI TO (rawInt s.heap.objs.size) false → IsPair k TO x y → k.IsListIter i1 l1 (k1 + 1) → k.IsListIter i2 l2 (k2 + 1) → IsPair k s.heap.objs.size x y → k.objs.size = s.heap.objs.size + 1 →
      (∀ c o, c ≠ z → c ≠ TO → c ≠ i1 → c ≠ i2 → s.heap.get? c = some o → k.get? c = some o) → Q (.ref s.heap.objs.size) { s with heap := k }) :
    wpAny (model prog w) A (Builtin.«zip.__next__» ⟨[.ref z], []⟩) (fun r s' => ∃ v, r = .done (.ret v) ∧ Q v s') E s := by
  show wpAny _ _ (field (.ref z) 2 >>= _) _ _ _
  refine wpAny_bind (wpAny_field gz rfl (x := .bool false) rfl ?_)
  show wpAny _ _ (field (.ref z) 3 >>= _) _ _ _
  refine wpAny_bind (wpAny_field gz rfl (x := .ref TI) rfl (wpAny_bind (wpAny_seqItems gI rfl ?_)))
  show wpAny _ _ (Builtin.SmallTypes.ownedTupleIsFree (.ref z) >>= _) _ _ _
  refine wpAny_bind (gf ?_)
  simp only [if_true]
  refine wpAny_bind (wpAny_rule (wpAny_bind (wpAny_field gz rfl (x := .ref TO) rfl ?_)))
  refine wpAny_bind (wpAny_setField_rec gz (by simp) fun u1 z1 b1 => ?_)
  have z1 : ZF u1 z TI TO .ellipsis f := z1
  refine wpAny_bind ?_
  simp only [List.zipIdx_cons, List.zipIdx_nil, List.forIn_cons, List.forIn_nil]
  refine wpAny_bind (wpAny_bind (wpAny_onRaise ?_))
  show wpAny _ _ (Builtin.SmallTypes.nextOf (.ref i1) >>= _) _ _ _
  refine wpAny_bind (wpAny_nextOf_list_item (g1.extBut b1.extBut D.i1z) (q1.extBut b1.extBut D.l1z) gx fun u2 p2 b2 => wpAny_pure ?_)
  have o2 : IsPair u2 TO a b := b2.extBut _ _ D.TOi1 (b1.extBut _ _ D.TOz gO)
  refine wpAny_bind (wpAny_seqItems o2 rfl (wpAny_bind (wpAny_updateSeq_pair o2 fun u3 o3 b3 => ?_)))
  have o3 : IsPair u3 TO x b := o3
  refine wpAny_bind (wpAny_letGo (wpAny_pure ?_))
  refine wpAny_bind (wpAny_bind (wpAny_onRaise ?_))
  show wpAny _ _ (Builtin.SmallTypes.nextOf (.ref i2) >>= _) _ _ _
  have r2 : u3.IsListIter i2 l2 k2 := ((g2.extBut b1.extBut D.i2z).extBut b2.extBut D.i12.symm).extBut b3.extBut D.TOi2.symm
  have t2 : u3.IsList l2 ys := ((q2.extBut b1.extBut D.l2z).extBut b2.extBut D.l2i1).extBut b3.extBut D.l2TO
  refine wpAny_bind (wpAny_nextOf_list_item (s := { s with heap := u3 }) r2 t2 gy fun u4 p4 b4 => wpAny_pure ?_)
  have o4 : IsPair u4 TO x b := b4.extBut _ _ D.TOi2 o3
  refine wpAny_bind (wpAny_seqItems o4 rfl (wpAny_bind (wpAny_updateSeq_pair o4 fun u5 o5 b5 => ?_)))
  have o5 : IsPair u5 TO x y := o5
  refine wpAny_bind (wpAny_letGo (wpAny_pure (wpAny_pure ?_)))
  refine wpAny_bind (wpAny_seqItems o5 rfl (wpAny_bind (wpAny_newTuple ?_)))
  have n5 : u5.objs.size = s.heap.objs.size := by rw [b5.1, b4.1, b3.1, b2.1, b1.1]
  have z5 : ZF u5 z TI TO .ellipsis f := b5.extBut _ _ D.TOz.symm (b4.extBut _ _ D.i2z.symm (b3.extBut _ _ D.TOz.symm (b2.extBut _ _ D.i1z.symm z1)))
  have e5 : ∀ c o, c ≠ z → c ≠ TO → c ≠ i1 → c ≠ i2 → s.heap.get? c = some o → u5.get? c = some o := fun c o c1 c2 c3 c4 e =>
    b5.extBut _ _ c2 (b4.extBut _ _ c4 (b3.extBut _ _ c2 (b2.extBut _ _ c3 (b1.extBut _ _ c1 e))))
  have r5 : u5.IsListIter i1 l1 (k1 + 1) := ((p2.extBut b3.extBut D.TOi1.symm).extBut b4.extBut D.i12).extBut b5.extBut D.TOi1.symm
  have t5 : u5.IsListIter i2 l2 (k2 + 1) := p4.extBut b5.extBut D.TOi2.symm
  have lz : z < u5.objs.size := Heap.lt_size z5
  show wpAny _ _ (Builtin.SmallTypes.ownedTupleHandOut (.ref z) (.ref u5.objs.size) >>= _) _ _ _
  refine wpAny_bind ?_
  unfold Builtin.SmallTypes.ownedTupleHandOut
  have z6 : ZF (u5.push { cls := .type "tuple", data := .seq #[x, y] }) z TI TO .ellipsis f := Heap.get?_push_of_some _ z5
  refine wpAny_bind (wpAny_setField_rec z6 (by simp) fun u7 z7 b7 => ?_)
  have z7 : ZF u7 z TI TO (rawInt u5.objs.size) f := z7
  refine wpAny_setField_rec z7 (by simp) fun u8 z8 b8 => ?_
  have z8 : ZF u8 z TI TO (rawInt u5.objs.size) false := z8
  have up : ∀ c o, c ≠ z → u5.get? c = some o → u8.get? c = some o := fun c o c1 e => b8.extBut _ _ c1 (b7.extBut _ _ c1 (Heap.get?_push_of_some _ e))
  have t8 : IsPair u8 u5.objs.size x y := b8.extBut _ _ (Nat.ne_of_gt lz) (b7.extBut _ _ (Nat.ne_of_gt lz) (Heap.get?_push_size _ rfl))
  have n8 : u8.objs.size = u5.objs.size + 1 := by rw [b8.1, b7.1, Heap.size_push]
  rw [n5] at z8 t8 n8
  refine wpAny_pure ⟨_, rfl, show Q (.ref u5.objs.size) _ from ?_⟩
  rw [n5]
  exact fin u8 z8 (up _ _ D.TOz o5) (r5.at fun o e => up _ o D.i1z e) (t5.at fun o e => up _ o D.i2z e) t8 n8 fun c o c1 c2 c3 c4 e => up c o c1 (e5 c o c1 c2 c3 c4 e)
theorem zn_free_end {Q : Fin → Shared → Prop} (hh : A.handled = none) (D : ZipApart z TI TO i1 i2 l1 l2)
    (gf : ∀ {A' : Around} {E' : Value → Shared → Prop} {Q' : Bool → Shared → Prop}, Q' true s → wpAny (model prog w) A' (Builtin.SmallTypes.ownedTupleIsFree (.ref z)) Q' E' s)
    (gz : ZF s.heap z TI TO f0 f) (gI : IsPair s.heap TI (.ref i1) (.ref i2)) (gO : IsPair s.heap TO a b)
    (g1 : s.heap.IsListIter i1 l1 k1) (g2 : s.heap.IsListIter i2 l2 k2) (q1 : s.heap.IsList l1 xs) (q2 : s.heap.IsList l2 ys) (gend : xs[k1]? = none ∨ ys[k2]? = none)
    (fin : ∀ k e, (∀ c o, c ≠ z → c ≠ TO → c ≠ i1 → c ≠ i2 → s.heap.get? c = some o → k.get? c = some o) → (∃ o, k.get? e = some o ∧ o.cls = .type "StopIteration") → E (.ref e) { s with heap := k }) :
    wpAny (model prog w) A (Builtin.«zip.__next__» ⟨[.ref z], []⟩) Q E s := by
  show wpAny _ _ (field (.ref z) 2 >>= _) _ _ _
  refine wpAny_bind (wpAny_field gz rfl (x := .bool false) rfl ?_)
  show wpAny _ _ (field (.ref z) 3 >>= _) _ _ _
  refine wpAny_bind (wpAny_field gz rfl (x := .ref TI) rfl (wpAny_bind (wpAny_seqItems gI rfl ?_)))
  show wpAny _ _ (Builtin.SmallTypes.ownedTupleIsFree (.ref z) >>= _) _ _ _
  refine wpAny_bind (gf ?_)
  simp only [if_true]
  refine wpAny_bind (wpAny_rule (wpAny_bind (wpAny_field gz rfl (x := .ref TO) rfl ?_)))
  refine wpAny_bind (wpAny_setField_rec gz (by simp) fun u1 z1 b1 => ?_)
  have z1 : ZF u1 z TI TO .ellipsis f := z1
  refine wpAny_bind ?_
  simp only [List.zipIdx_cons, List.zipIdx_nil, List.forIn_cons, List.forIn_nil]
  refine wpAny_bind (wpAny_bind (wpAny_onRaise ?_))
  show wpAny _ _ (Builtin.SmallTypes.nextOf (.ref i1) >>= _) _ _ _
  cases gx : xs[k1]? with
  | none =>
    refine wpAny_bind (wpAny_nextOf_list_end hh (g1.extBut b1.extBut D.i1z) (q1.extBut b1.extBut D.l1z) gx fun u2 e b2 ⟨oe, go, gc⟩ => ?_)
    have z2 : ZF u2 z TI TO .ellipsis f := b2 _ _ D.i1z.symm z1
    have ne : e ≠ z := fun q => by subst q; rw [z2] at go; cases go; simp at gc
    exact wpAny_setField_rec z2 (by simp) fun u3 _ b3 => fin u3 e (fun c o c1 _ c3 _ q => b3.extBut _ _ c1 (b2 _ _ c3 (b1.extBut _ _ c1 q))) ⟨oe, b3.extBut _ _ ne go, gc⟩
  | some x =>
    have gy : ys[k2]? = none := by
      rcases gend with q | q
      · rw [gx] at q; cases q
      · exact q
    refine wpAny_bind (wpAny_nextOf_list_item (g1.extBut b1.extBut D.i1z) (q1.extBut b1.extBut D.l1z) gx fun u2 p2 b2 => wpAny_pure ?_)
    have o2 : IsPair u2 TO a b := b2.extBut _ _ D.TOi1 (b1.extBut _ _ D.TOz gO)
    refine wpAny_bind (wpAny_seqItems o2 rfl (wpAny_bind (wpAny_updateSeq_pair o2 fun u3 o3 b3 => ?_)))
    refine wpAny_bind (wpAny_letGo (wpAny_pure ?_))
    refine wpAny_bind (wpAny_bind (wpAny_onRaise ?_))
    show wpAny _ _ (Builtin.SmallTypes.nextOf (.ref i2) >>= _) _ _ _
    have r2 : u3.IsListIter i2 l2 k2 := ((g2.extBut b1.extBut D.i2z).extBut b2.extBut D.i12.symm).extBut b3.extBut D.TOi2.symm
    have t2 : u3.IsList l2 ys := ((q2.extBut b1.extBut D.l2z).extBut b2.extBut D.l2i1).extBut b3.extBut D.l2TO
    refine wpAny_bind (wpAny_nextOf_list_end (s := { s with heap := u3 }) hh r2 t2 gy fun u4 e b4 ⟨oe, go, gc⟩ => ?_)
    have z4 : ZF u4 z TI TO .ellipsis f := b4 _ _ D.i2z.symm (b3.extBut _ _ D.TOz.symm (b2.extBut _ _ D.i1z.symm z1))
    have ne : e ≠ z := fun q => by subst q; rw [z4] at go; cases go; simp at gc
    exact wpAny_setField_rec z4 (by simp) fun u5 _ b5 => fin u5 e (fun c o c1 c2 c3 c4 q => b5.extBut _ _ c1 (b4 _ _ c4 (b3.extBut _ _ c2 (b2.extBut _ _ c3 (b1.extBut _ _ c1 q))))) ⟨oe, b5.extBut _ _ ne go, gc⟩
/-- nothing is out, or what is out is gone, or it is still there -/
theorem zf_cases (gz : ZF s.heap z TI TO f0 f) (h0 : f0 = .none ∨ ∃ T : Addr, f0 = rawInt T) :
    (∀ {A' : Around} {E' : Value → Shared → Prop} {Q' : Bool → Shared → Prop}, Q' true s → wpAny (model prog w) A' (Builtin.SmallTypes.ownedTupleIsFree (.ref z)) Q' E' s) ∨ ∃ (T : Addr) (oT : Obj), f0 = rawInt T ∧ s.heap.get? T = some oT := by
  rcases h0 with rfl | ⟨T, rfl⟩
  · refine .inl fun {A' E' Q'} q => ?_
    unfold Builtin.SmallTypes.ownedTupleIsFree
    exact wpAny_bind (wpAny_field gz rfl (x := .none) rfl (wpAny_pure q))
  · cases e : s.heap.get? T with
    | some oT => exact .inr ⟨T, oT, rfl, e⟩
    | none =>
      refine .inl fun {A' E' Q'} q => ?_
      unfold Builtin.SmallTypes.ownedTupleIsFree
      refine wpAny_bind (wpAny_field gz rfl (x := rawInt T) rfl ?_)
      show wpAny _ _ (loadIfAlive ((T : Int).toNat) >>= _) _ _ _
      rw [Int.toNat_natCast]
      have gone : ∀ {Q2 : Option Obj → Shared → Prop}, Q2 none s → wpAny (model prog w) A' (loadIfAlive T) Q2 E' s := fun {Q2} q2 => by
        have q3 : Q2 (s.heap.get? T) s := by rw [e]; exact q2
        exact fun _ _ _ => q3
      exact wpAny_bind (gone (by simp only [Option.isNone_none, if_true]; exact wpAny_pure q))
theorem zn_item {Q : Value → Shared → Prop} (D : ZipApart z TI TO i1 i2 l1 l2) (gz : ZF s.heap z TI TO f0 f) (h0 : f0 = .none ∨ ∃ T : Addr, f0 = rawInt T) (gI : IsPair s.heap TI (.ref i1) (.ref i2)) (gO : IsPair s.heap TO a b)
    (g1 : s.heap.IsListIter i1 l1 k1) (g2 : s.heap.IsListIter i2 l2 k2) (q1 : s.heap.IsList l1 xs) (q2 : s.heap.IsList l2 ys) (gx : xs[k1]? = some x) (gy : ys[k2]? = some y)
    (fin : ∀ k, (∃ (T : Addr) (f : Bool), ZF k z TI TO (rawInt T) f) → (∃ a b, IsPair k TO a b) → k.IsListIter i1 l1 (k1 + 1) → k.IsListIter i2 l2 (k2 + 1) → IsPair k s.heap.objs.size x y → k.objs.size = s.heap.objs.size + 1 →
      (∀ c o, c ≠ z → c ≠ TO → c ≠ i1 → c ≠ i2 → s.heap.get? c = some o → k.get? c = some o) → Q (.ref s.heap.objs.size) { s with heap := k }) :
    wpAny (model prog w) A (Builtin.SmallTypes.nextOf (.ref z)) Q E s := by
  have gT : s.TypeIs (.ref z) "zip" := ⟨_, gz, rfl⟩
  unfold Builtin.SmallTypes.nextOf
  refine wpAny_bind (wpAny_callSpecial?_slot (name := Str.ofString "__next__") gT F.slot_zip_next (wpAny_call_entry F.slot_zip_next gT F.entry_zip_next ?_ (F.args_zip_next_1 _)))
  rcases zf_cases (prog := prog) (w := w) gz h0 with gf | ⟨T, oT, rfl, hT⟩
  · exact zn_free_item D gf gz gI gO g1 g2 q1 q2 gx gy fun k m1 m2 m3 m4 m5 m6 m7 => wpAny_pure (fin k ⟨_, _, m1⟩ ⟨_, _, m2⟩ m3 m4 m5 m6 m7)
  · refine zip_next_item_held D gz hT gI g1 g2 q1 q2 gx gy fun k m1 m3 m4 m5 m6 m7 => wpAny_pure (fin k ⟨_, _, m1⟩ ⟨_, _, m7 _ _ D.TOz D.TOi1 D.TOi2 gO⟩ m3 m4 m5 m6 fun c o c1 _ c3 c4 q => m7 c o c1 c3 c4 q)
theorem zn_end {Q : Value → Shared → Prop} (hh : A.handled = none) (D : ZipApart z TI TO i1 i2 l1 l2) (gz : ZF s.heap z TI TO f0 f) (h0 : f0 = .none ∨ ∃ T : Addr, f0 = rawInt T) (gI : IsPair s.heap TI (.ref i1) (.ref i2)) (gO : IsPair s.heap TO a b)
    (g1 : s.heap.IsListIter i1 l1 k1) (g2 : s.heap.IsListIter i2 l2 k2) (q1 : s.heap.IsList l1 xs) (q2 : s.heap.IsList l2 ys) (gend : xs[k1]? = none ∨ ys[k2]? = none)
    (fin : ∀ k e, (∀ c o, c ≠ z → c ≠ TO → c ≠ i1 → c ≠ i2 → s.heap.get? c = some o → k.get? c = some o) → (∃ o, k.get? e = some o ∧ o.cls = .type "StopIteration") → E (.ref e) { s with heap := k }) :
    wpAny (model prog w) A (Builtin.SmallTypes.nextOf (.ref z)) Q E s := by
  have gT : s.TypeIs (.ref z) "zip" := ⟨_, gz, rfl⟩
  unfold Builtin.SmallTypes.nextOf
  refine wpAny_bind (wpAny_callSpecial?_slot (name := Str.ofString "__next__") gT F.slot_zip_next (wpAny_call_entry F.slot_zip_next gT F.entry_zip_next ?_ (F.args_zip_next_1 _)))
  rcases zf_cases (prog := prog) (w := w) gz h0 with gf | ⟨T, oT, rfl, hT⟩
  · exact zn_free_end hh D gf gz gI gO g1 g2 q1 q2 gend fin
  · exact zip_next_end_held hh D gz hT gI g1 g2 q1 q2 gend fun k e m7 m8 => fin k e (fun c o c1 _ c3 c4 q => m7 c o c1 c3 c4 q) m8
end
/-- the lists at a and b, the pairs of their items, each with its number in a new pair -/
def IteZ (K : PySem.W.Frag) (a b : Addr) : It where
  go := fun i H => ∃ (xs ys : List V) (x y : V), SqL K H a xs ∧ SqL K H b ys ∧ xs[i]? = some x ∧ ys[i]? = some y
  yld := fun i H v H' => ∃ T U x y, v = .ref U ∧ H T = none ∧ H U = none ∧ U ≠ T ∧ H' = upd (upd H T (.tup [x, y])) U (.tup [.int (i : Nat), .ref T]) ∧ (∀ xs, SqL K H a xs → xs[i]? = some x) ∧ ∀ ys, SqL K H b ys → ys[i]? = some y
  stop := fun i H => ∃ xs ys : List V, SqL K H a xs ∧ SqL K H b ys ∧ (xs.length ≤ i ∨ ys.length ≤ i)
theorem turn_enumZ {P : Program} {w : World} {K : PySem.W.Frag} {elts : List Expr} {kk : Nat} {tpos : Pos} {a b e z TI TO i1 i2 : Addr} (D : ZipApart z TI TO i1 i2 a b) (ne : ∀ c ∈ [z, TI, TO, i1, i2], e ≠ c) :
    Turn P w K (.Tuple elts kk tpos) (IteZ K a b) [e, z, TI, TO, i1, i2] e (fun i h => (∃ old, IsEnum h e z ((i : Nat) : Int) old) ∧ (∃ f0 f, (f0 = .none ∨ ∃ T : Addr, f0 = rawInt T) ∧ ZF h z TI TO f0 f) ∧ IsPair h TI (.ref i1) (.ref i2) ∧ (∃ x y, IsPair h TO x y) ∧ h.IsListIter i1 a i ∧ h.IsListIter i2 b i) where
  mem := by simp
  obj := fun i h ⟨⟨old, he⟩, ⟨f0, f, _, hz⟩, hTI, ⟨x, y, hTO⟩, ⟨o1, e1, _, d1⟩, ⟨o2, e2, _, d2⟩⟩ c hc => by
    rcases (show c = e ∨ c = z ∨ c = TI ∨ c = TO ∨ c = i1 ∨ c = i2 by simpa using hc) with rfl | rfl | rfl | rfl | rfl | rfl
    · exact ⟨_, he, fun v q => nomatch q⟩
    · exact ⟨_, hz, fun v q => nomatch q⟩
    · exact ⟨_, hTI, fun v q => nomatch q⟩
    · exact ⟨_, hTO, fun v q => nomatch q⟩
    · exact ⟨o1, e1, fun v q => by rw [d1] at q; cases q⟩
    · exact ⟨o2, e2, fun v q => by rw [d2] at q; cases q⟩
  keep := fun i h h' ⟨⟨old, he⟩, ⟨f0, f, h0, hz⟩, hTI, ⟨x, y, hTO⟩, h1, h2⟩ k =>
    ⟨⟨old, k e (by simp) _ he⟩, ⟨f0, f, h0, k z (by simp) _ hz⟩, k TI (by simp) _ hTI, ⟨x, y, k TO (by simp) _ hTO⟩, h1.at fun o q => k i1 (by simp) o q, h2.at fun o q => k i2 (by simp) o q⟩
  item := by
    intro X hP hw hK hc i pins s σ H E I hf st hg
    subst hP hw hK
    obtain ⟨⟨old, he⟩, ⟨f0, f, h0, hz⟩, hTI, ⟨x0, y0, hTO⟩, h1, h2⟩ := st
    obtain ⟨xs, ys, x, y, hqx, hqy, hx, hy⟩ := hg
    obtain ⟨its, rv, p, _⟩ := I.list hqx
    obtain ⟨its2, rv2, p2, _⟩ := I.list hqy
    obtain ⟨u, hu, ru⟩ := rv.get hx
    obtain ⟨u2, hu2, ru2⟩ := rv2.get hy
    have hel : e < s.heap.objs.size := Heap.lt_size he
    have nz : e ≠ z := ne z (by simp)
    refine en_step (W := fun v k => v = .ref s.heap.objs.size ∧ (∃ (T : Addr) (f : Bool), ZF k z TI TO (rawInt T) f) ∧ (∃ a b, IsPair k TO a b) ∧ k.IsListIter i1 a (i + 1) ∧ k.IsListIter i2 b (i + 1) ∧ IsPair k s.heap.objs.size u u2 ∧ k.objs.size = s.heap.objs.size + 1 ∧
        (∀ c o, c ≠ z → c ≠ TO → c ≠ i1 → c ≠ i2 → s.heap.get? c = some o → k.get? c = some o)) he
      (fun Q' E' q => zn_item D hz h0 hTI hTO h1 h2 p.isList p2.isList (x := u) (y := u2) (by simpa using hu) (by simpa using hu2) fun k m1 m2 m3 m4 m5 m6 m7 =>
        q _ k ((m7 e _ nz (ne TO (by simp)) (ne i1 (by simp)) (ne i2 (by simp)) he).trans he.symm) ⟨rfl, m1, m2, m3, m4, m5, m6, m7⟩) ?_
    rintro _ k1 k' ⟨rfl, ⟨T1, f1, m1⟩, ⟨x1, y1, m2⟩, m3, m4, m5, m6, m7⟩ ho hT hsz hk
    rw [m6] at ho hT hsz ⊢
    refine ⟨_, rfl, wpAny_letOwnedTupleGo_enum (s := { s with heap := k', toks := s.toks + 1 }) ho fun k'' he' sb => ?_⟩
    have up : ∀ c o, c ≠ e → k1.get? c = some o → k''.get? c = some o := fun c o n q => (sb.2 c n).trans (hk c o n q)
    have hT2 := (sb.2 _ (Nat.ne_of_gt (Nat.lt_succ_of_lt hel))).trans hT
    have hP2 : IsPair k'' s.heap.objs.size u u2 := up _ _ (Nat.ne_of_gt hel) m5
    have zl : z < s.heap.objs.size := Heap.lt_size hz
    have cl : ∀ c ∈ [e, z, TI, TO, i1, i2], c < s.heap.objs.size := fun c hcm => by
      rcases (show c = e ∨ c = z ∨ c = TI ∨ c = TO ∨ c = i1 ∨ c = i2 by simpa using hcm) with rfl | rfl | rfl | rfl | rfl | rfl
      · exact hel
      · exact zl
      · exact Heap.lt_size hTI
      · exact Heap.lt_size hTO
      · obtain ⟨_, q, _⟩ := h1; exact Heap.lt_size q
      · obtain ⟨_, q, _⟩ := h2; exact Heap.lt_size q
    have I1 : Inv X pins σ (upd H s.heap.objs.size (.tup [x, y])) { s with heap := k1, toks := s.toks } :=
      I.turnedNew (ch := [e, z, TI, TO, i1, i2]) (fun c o n q => m7 c o (fun w => n (by simp [w])) (fun w => n (by simp [w])) (fun w => n (by simp [w])) (fun w => n (by simp [w])) q) hf (Nat.le_refl _)
        ⟨by show 2 ≤ sizeLine; decide, [u, u2], .cons ru (.cons ru2 .nil), ⟨_, m5, rfl, _, rfl⟩⟩
    have hn1 : ∀ c ∈ [e, z, TI, TO, i1, i2], upd H s.heap.objs.size (.tup [x, y]) c = none := fun c hcm => by rw [upd_ne (Nat.ne_of_lt (cl c hcm))]; exact (hf c hcm).1
    have I2 : Inv X pins σ (upd (upd H s.heap.objs.size (.tup [x, y])) (s.heap.objs.size + 1) (.tup [.int (i : Nat), .ref s.heap.objs.size])) { s with heap := k'', toks := s.toks + 1 } :=
      I1.turnedNew (ch := [e, z, TI, TO, i1, i2]) (fun c o n q => up c o (fun w => n (by simp [w])) q) (fun c hcm => ⟨hn1 c hcm, (hf c hcm).2⟩) (Nat.le_of_eq m6)
        ⟨by show 2 ≤ sizeLine; decide, [.int i s.toks, .ref s.heap.objs.size], .cons ⟨_, rfl⟩ (.cons rfl .nil), ⟨_, hT2, rfl, _, rfl⟩⟩
    have hne1 : ∀ c ∈ [z, TI, TO, i1, i2], c ≠ e := fun c hcm => (ne c hcm).symm
    refine ⟨.ref (s.heap.objs.size + 1), _, I2, rfl, ⟨s.heap.objs.size, s.heap.objs.size + 1, x, y, rfl, I.hok.fresh (Nat.le_refl _), I.hok.fresh (Nat.le_succ _), Nat.succ_ne_self _, rfl, fun ys hy => by rw [I.list_inj hy hqx]; exact hx, fun xs hy' => by rw [I.list_inj hy' hqy]; exact hy⟩, ⟨⟨.ref s.heap.objs.size, ?_⟩, ⟨_, f1, .inr ⟨T1, rfl⟩, ?_⟩, ?_, ⟨x1, y1, ?_⟩, ?_, ?_⟩, fun c hcm => ?_⟩
    · rw [show ((i + 1 : Nat) : Int) = (i : Int) + 1 by omega]; exact he'
    · exact up _ _ (hne1 z (by simp)) m1
    · exact up _ _ (hne1 TI (by simp)) (m7 _ _ D.TIz D.TITO D.TIi1 D.TIi2 hTI)
    · exact up _ _ (hne1 TO (by simp)) m2
    · exact m3.at fun o q => up _ _ (hne1 i1 (by simp)) q
    · exact m4.at fun o q => up _ _ (hne1 i2 (by simp)) q
    · rw [upd_ne (Nat.ne_of_lt (Nat.lt_succ_of_lt (cl c hcm)))]
      exact hn1 c hcm
  done := by
    intro X hP hw hK hc i pins s σ H E I hf st hg
    subst hP hw hK
    obtain ⟨⟨old, he⟩, ⟨f0, f, h0, hz⟩, hTI, ⟨x0, y0, hTO⟩, h1, h2⟩ := st
    obtain ⟨xs, ys, hqx, hqy, hend⟩ := hg
    obtain ⟨its, rv, p, _⟩ := I.list hqx
    obtain ⟨its2, rv2, p2, _⟩ := I.list hqy
    have l1 := rv.length
    have l2 := rv2.length
    have hen : its.toArray[i]? = none ∨ its2.toArray[i]? = none := by
      rcases hend with q | q
      · exact .inl (by simp; omega)
      · exact .inr (by simp; omega)
    refine en_stop (W := fun k => ∀ c o, c ≠ z → c ≠ TO → c ≠ i1 → c ≠ i2 → s.heap.get? c = some o → k.get? c = some o) he
      (fun Q' E' q => zn_end (I.ok.hd hc) D hz h0 hTI hTO h1 h2 p.isList p2.isList hen fun k x m7 m8 => q k x m7 m8) fun k m7 => ⟨rfl, I.turnedL (t' := s.toks) (ch := [e, z, TI, TO, i1, i2]) (fun c o hb q =>
        m7 c o (fun q' => hb (by simp [q'])) (fun q' => hb (by simp [q'])) (fun q' => hb (by simp [q'])) (fun q' => hb (by simp [q'])) q) hf⟩
  self := fun A i s Q E ⟨⟨_, he⟩, _⟩ h => wpAny_pyIter_enum he h
section
variable {X : Cx} {a e : Expr} {es : List Expr} {pos : Pos}
theorem ck_inj {K : PySem.W.Frag} {C C' : Addr} {k : Str} (h : CK K C k) (h' : CK K C' k) : C = C' := by
  unfold CK at h h'
  rw [h] at h'
  cases h'; rfl
theorem atF_get {K : PySem.W.Frag} {O : Addr → Prop} {H : Hp} {f : Str} : ∀ {ns : List Str} {vs : List V} {ds : List D} {d : D}, Reps K O H vs ds → atF f (ns.map .str) ds = some d → ∃ v, (ns.zip vs).lookup f = some v ∧ Rep K O H v d
  | [], _, _, _, _, h => by cases h
  | n :: ns, _, _, d, .nil, h => by cases h
  | n :: ns, _, _, d, .cons (v := v) r t, h => by
    have h : (if n = f then some _ else atF f (ns.map .str) _) = some d := h
    split at h
    · rename_i e
      cases h
      subst e
      exact ⟨v, by rw [List.zip_cons_cons, List.lookup_cons]; simp, r⟩
    · rename_i e
      obtain ⟨u, h1, h2⟩ := atF_get t h
      refine ⟨u, ?_, h2⟩
      rw [List.zip_cons_cons, List.lookup_cons]
      have : (f == n) = false := by rw [beq_eq_false_iff_ne]; exact fun z => e z.symm
      simp only [this]
      exact h1
theorem no_field {m : Str} : ∀ {ns : List Str} {vs : List V}, (ns.map PyData.str).all (notN m) = true → (ns.zip vs).lookup m = none
  | [], _, _ => rfl
  | n :: ns, [], _ => rfl
  | n :: ns, v :: vs, h => by
    have h : (notN m (.str n) && (ns.map PyData.str).all (notN m)) = true := h
    rw [Bool.and_eq_true] at h
    have h1 : (!decide (n = m)) = true := h.1
    have h1 : n ≠ m := by simpa using h1
    rw [List.zip_cons_cons, List.lookup_cons]
    have : (m == n) = false := by rw [beq_eq_false_iff_ne]; exact fun z => h1 z.symm
    simp only [this]
    exact no_field h.2
theorem e_att {k f : Str} {C : Addr} (ck : CK X.K C k) (cl : Cls X.K C) (na : NoAttr X.K C f) {fa : En → Option RV} {la : List Nat} (ha : PE X a (tC X.K fa la)) (hb : attributeBase a f X.env (eval a X.env) = eval a X.env) :
    PE X (.Attribute a f pos) (tE X.K (fun env => (fa env).bind fun x => (attD k f x.d).map .v) la) :=
  pe_mono (pe_fld ha hb) fun σ H Q ⟨Ox, Hb, env, r, R, e, kk⟩ => by
    obtain ⟨x, e1, e⟩ := Option.bind_eq_some_iff.mp e
    obtain ⟨d, e3, rfl⟩ := Option.map_eq_some_iff.mp e
    refine ⟨Ox, Hb, env, x, R, e1, fun v H1 s1 c1 => ?_⟩
    unfold attD at e3
    split at e3
    · rename_i k' ns ds ex
      split at e3
      · rename_i hk
        subst hk
        rw [ex] at c1
        cases (show Rep _ _ _ v (.dict [(.tuple (.str k' :: ns), .tuple ds)]) from c1) with
        | ins q l c ha hr =>
          obtain ⟨q1, q2⟩ := List.cons.inj q
          cases q1
          cases ck_inj ck c
          rw [q2] at e3
          obtain ⟨u, h1, h2⟩ := atF_get hr e3
          exact ⟨_, _, _, _, u, rfl, ha, cl, na, h1, kk u H1 s1 h2⟩
      · cases e3
    · cases e3
/-- a receiver of a method, of an attribute -/
def recvB : Expr → Bool
  | .Name .. => true
  | .Attribute .. => true
  | .Subscript .. => true
  | .Call (.Name ..) (_ :: _) [] _ => true
  | _ => false
theorem base_eq {f : Str} {env : PySem.Env} (h : recvB a = true) : attributeBase a f env (eval a env) = eval a env := by
  unfold recvB at h
  split at h <;> first | rfl | cases h
theorem all_star {es : List Expr} {env : PySem.Env} (h : es.all (fun e => !isStar e) = true) : (backTo pos (starEach es env)).all (fun x => !x.1) = true := by
  have q := star_any (pos := pos) (env := env) h
  rw [List.all_eq_not_any_not]
  simp only [Bool.not_not]
  rw [q]; rfl
theorem meth_eq {o : Expr} {m : Str} {apos : Pos} {env : PySem.Env} (hbase : attributeBase o m env (eval o env) = eval o env) (hs : es.all (fun e => !isStar e) = true) (hl : es.length < 30) (hln : (apos.endLine == pos.line) = true) :
    eval (.Call (.Attribute o m apos) es [] pos) env = (do
      let ov ← eval o env
      standAt apos.atName
      let (f, first) ← holding [ov] (getMethod ov m (do return (← importBound o env).getD true))
      callWith pos f first (backTo pos (starEach es env)) (backToKw pos (keywordEach [] env))) := by
  have hform : methodCallForm (es.length + ([] : List Keyword).length) (backTo pos (starEach es env)) (backToKw pos (keywordEach [] env)) = true := by
    unfold methodCallForm
    rw [all_star hs]
    show (true && true && decide (es.length + 0 + 0 < 30)) = true
    rw [decide_eq_true (by omega)]; rfl
  have hpos : methodCallPos true o env apos pos = pure pos := by unfold methodCallPos; rw [hln]; rfl
  rw [arm_eval_Call, hbase]
  unfold methodCall
  rw [hform, hpos]
  rfl
theorem e_meth {k m : Str} {C f : Addr} {kk : Nat} {fd : FuncData} {ps : List Str} {g : List D → Option RV} {apos : Pos} (ck : CK X.K C k) (cl : Cls X.K C) (hm : Meth X.K C m f) (F : FnOk X.prog X.w X.K X.mg X.base CX0 kk f fd ps (spD X.K (es.length + 1) g)) (hr : Room kk X.A) (hb : Binds X.K fd ps [])
    {fa : En → Option RV} {la : List Nat} (ha : PE X a (tE X.K fa la)) (hv : recvB a = true) (h30 : es.length < 30) (hln : (apos.endLine == pos.line) = true) {fe : En → Option (List D)} {le : List Nat} (he : PA X es (tA X.K fe le)) (hs : es.all (fun e => !isStar e) = true) (hl : ∀ env ds, fe env = some ds → ds.length = es.length) :
    PE X (.Call (.Attribute a m apos) es [] pos) (tE X.K (fun env => (fa env).bind fun x => if insOk k m x.d = true then (fe env).bind fun ds => g (x.d :: ds) else none) (la ++ le)) := by
  have mono : ∀ {t : TA}, (∀ σ H Q, tA X.K fe le σ H Q → t σ H Q) → ∀ σ H Q, tE X.K (fun env => (fa env).bind fun x => if insOk k m x.d = true then (fe env).bind fun ds => g (x.d :: ds) else none) (la ++ le) σ H Q → tMeth C m (spD X.K (es.length + 1) g) [] E0 (tE X.K fa la) t σ H Q := by
    intro t ht σ H Q ⟨Ox, Hb, env, r, R, e, kq⟩
    obtain ⟨x, e1, e⟩ := Option.bind_eq_some_iff.mp e
    split at e
    · rename_i hi
      obtain ⟨ds, e2, e3⟩ := Option.bind_eq_some_iff.mp e
      refine ⟨Ox, Hb, env, x, R, e1, fun v H1 s1 c1 => ?_⟩
      have L1 := (R.ext' s1).lst (L := la)
      have rx : Rep X.K (Of Ox σ env la) H1 v x.d := c1.rep R.lst L1
      unfold insOk at hi
      split at hi
      · rename_i k' ns us ex
        rw [Bool.and_eq_true, decide_eq_true_eq] at hi
        obtain ⟨rfl, hn⟩ := hi
        have rx0 := rx
        rw [ex] at rx
        cases rx with
        | ins q l c hx hr =>
          obtain ⟨q1, q2⟩ := List.cons.inj q
          cases q1
          cases ck_inj ck c
          rw [q2] at hn
          refine ⟨_, _, _, rfl, hx, no_field hn, ht _ _ _ ⟨Ox, Hb, env, ds, R.ext' s1, e2, fun vs H2 s2 c2 => ?_⟩⟩
          show spD X.K (es.length + 1) g (_ :: (vs ++ [])) H2 Q E0
          rw [List.append_nil]
          have sub1 : ∀ b, Of Ox σ env (la ++ le) b → Of Ox σ env la b := of_sub fun i hi => List.mem_append_left _ hi
          have sub2 : ∀ b, Of Ox σ env (la ++ le) b → Of Ox σ env le b := of_sub fun i hi => List.mem_append_right _ hi
          have R2 := R.ext' (s1.trans s2)
          refine ⟨Of Ox σ env (la ++ le), x.d :: ds, r, R2.lst, .cons (rep_weak R2.lst sub1 (rep_ext s2 L1 rx0)) (reps_weak R2.lst sub2 c2), by rw [List.length_cons, hl _ _ e2], e3, fun w H3 s3 rr => kq w H3 ((s1.trans s2).trans s3) (rr.back (s1.trans s2))⟩
      · cases hi
    · cases e
  cases es with
  | nil =>
    refine pe_mono (pe_meth0 ha cl hm F hr hb .nil pass0 (meth_eq (base_eq hv) hs h30 hln)) (mono fun σ H Q ⟨Ox, Hb, env, ds, R, e, kq⟩ => ?_)
    have : ds = [] := List.length_eq_zero_iff.mp (hl _ _ e)
    subst this
    exact kq [] H (Same.refl H) .nil
  | cons b r =>
    have hs0 := hs
    rw [List.all_cons, Bool.and_eq_true, Bool.not_eq_true'] at hs
    exact pe_mono (pe_meth ha cl hm F hr hb .nil pass0 he (star_cons hs.1) (star_any hs.2) (meth_eq (base_eq hv) hs0 h30 hln)) (mono fun σ H Q h => h)
/-- the promise of an __init__ that stores what it is given -/
def spI (C : Addr) (ns : List Str) : Sp := fun vs H Q _ => ∃ (p dx : Addr) (us : List V), vs = .ref p :: us ∧ us.length = ns.length ∧ H p = some (.ins C dx []) ∧ Q .non (upd H p (.ins C dx (ns.zip us)))
theorem e_new {k : Str} {ns : List Str} {C f : Addr} {fd : FuncData} {ps : List Str} {p : Pos} {G : Option RV} (ck : CK X.K C k) (M : Mk X.K C f) (F : FnOk X.prog X.w X.K X.mg X.base CX0 1 f fd ps (spI C ns)) (hr : ∀ r, G = some r → Room 2 X.A) (hg : Gl X k) (hm : X.mg k = some (.ref C)) (hb : Binds X.K fd ps [])
    {fe : En → Option (List D)} {le : List Nat} (he : PA X (e :: es) (tA X.K fe le)) (hd : (k == ("__debug__" : Str)) = false) (hs : (e :: es).all (fun e => !isStar e) = true) :
    PE X (.Call (.Name k p) (e :: es) [] pos) (tE X.K (fun env => G.bind fun _ => (fe env).bind fun ds => if ds.length = ns.length then some (.v (insD k ns ds)) else none) le) := by
  rw [List.all_cons, Bool.and_eq_true, Bool.not_eq_true'] at hs
  cases G with
  | none => exact ⟨fun pins s σ H Q I ⟨Ox, Hb, env, r, R, e, kq⟩ => by cases e⟩
  | some g =>
    refine pe_mono (pe_make M F (hr g rfl) hg hm hb .nil pass0 he hd (star_cons hs.1) (star_any hs.2)) fun σ H Q ⟨Ox, Hb, env, r, R, e, kq⟩ => ?_
    obtain ⟨ds, e1, e2⟩ := Option.bind_eq_some_iff.mp (show ((fe env).bind fun ds => if ds.length = ns.length then some (.v (insD k ns ds)) else none) = some r from e)
    split at e2
    · rename_i hl
      cases e2
      refine ⟨Ox, Hb, env, ds, R, e1, fun vs H1 s1 c1 x dx nx ndx nex => ?_⟩
      refine ⟨x, dx, vs, by rw [List.append_nil], by rw [c1.length, hl], upd_same, rfl, ?_⟩
      have sm : Same H1 (upd (upd (upd H1 dx (.own x)) x (.ins C dx [])) x (.ins C dx (ns.zip vs))) := fun b o z => by
        rw [upd_ne (ne_of_none z nx), upd_ne (ne_of_none z nx), upd_ne (ne_of_none z ndx)]; exact z
      refine kq _ _ (s1.trans sm) ?_
      exact .ins rfl hl.symm ck upd_same (reps_ext sm (R.ext' s1).lst c1)
    · cases e2
/-- a whole number of the module -/
theorem e_cst {x : Str} {i : Int} {t : Nat} {p : Pos} (hg : Gl X x) (hm : X.mg x = some (.int i t)) (hd : (x == ("__debug__" : Str)) = false) : PE X (.Name x p) (tE X.K (fun _ => some (.v (.int i))) []) :=
  pe_mono (pe_glob hg hm (v := .int i) ⟨t, rfl⟩ hd) fun σ H Q ⟨Ox, Hb, env, r, R, e, kq⟩ => by
    cases e
    exact kq _ H (Same.refl H) (.int i)
end
end Wi
namespace Wi
section
open PySem
open PySem.Sem (wp)
open RZ (nextOf_tuple_item nextOf_tuple_end)
section
variable {prog : Program} {w : World} {A : Around} {E : Value → Shared → Prop} {s : Shared}
theorem zipM_item0 {zz pI pO ja jb la lb : Addr} {na nb : Nat} {us ws : Array Value} {x y a b : Value} {Q : Value → Shared → Prop} (D : ZipApart zz pI pO ja jb la lb)
    (fz_ : IsZip s.heap zz pI pO .none) (fI : IsPair s.heap pI (.ref ja) (.ref jb)) (fO : IsPair s.heap pO a b)
    (fh1 : s.heap.IsTupleIter ja la na) (fh2 : s.heap.IsListIter jb lb nb) (fa : s.heap.IsTuple la us) (fb : s.heap.IsList lb ws) (ex : us[na]? = some x) (ey : ws[nb]? = some y)
    (fQ : ∀ h', IsZip h' zz pI pO (rawInt s.heap.objs.size) → IsPair h' pO x y → h'.IsTupleIter ja la (na + 1) → h'.IsListIter jb lb (nb + 1) → IsPair h' s.heap.objs.size x y → h'.objs.size = s.heap.objs.size + 1 →
      (∀ c o, c ≠ zz → c ≠ pO → c ≠ ja → c ≠ jb → s.heap.get? c = some o → h'.get? c = some o) → Q (.ref s.heap.objs.size) { s with heap := h' }) :
    wpAny (model prog w) A (Builtin.«zip.__next__» ⟨[.ref zz], []⟩) (fun fin s' => ∃ v, fin = .done (.ret v) ∧ Q v s') E s := by
  show wpAny _ _ (field (.ref zz) 2 >>= _) _ _ _
  refine wpAny_bind (wpAny_field fz_ rfl (x := .bool false) rfl ?_)
  show wpAny _ _ (field (.ref zz) 3 >>= _) _ _ _
  refine wpAny_bind (wpAny_field fz_ rfl (x := .ref pI) rfl ?_)
  refine wpAny_bind (wpAny_seqItems fI rfl ?_)
  show wpAny _ _ (Builtin.SmallTypes.ownedTupleIsFree (.ref zz) >>= _) _ _ _
  refine wpAny_bind ?_
  unfold Builtin.SmallTypes.ownedTupleIsFree
  refine wpAny_bind (wpAny_field fz_ rfl (x := .none) rfl (wpAny_pure ?_))
  simp only [if_true]
  refine wpAny_bind (wpAny_rule ?_)
  refine wpAny_bind (wpAny_field fz_ rfl (x := .ref pO) rfl ?_)
  refine wpAny_bind (wpAny_setField_rec fz_ (by simp) fun g₁ kz₁ ks₁ => ?_)
  replace kz₁ : IsZip g₁ zz pI pO .ellipsis := kz₁
  refine wpAny_bind ?_
  simp only [List.zipIdx_cons, List.zipIdx_nil, List.forIn_cons, List.forIn_nil]

  refine wpAny_bind (wpAny_bind (wpAny_onRaise ?_))
  show wpAny _ _ (Builtin.SmallTypes.nextOf (.ref ja) >>= _) _ _ _
  refine wpAny_bind (nextOf_tuple_item (fh1.extBut ks₁.extBut D.i1z) (fa.extBut ks₁.extBut D.l1z) ex fun g₂ m1₂ ks₂ => wpAny_pure ?_)
  have kO₂ : IsPair g₂ pO a b := ks₂.extBut _ _ D.TOi1 (ks₁.extBut _ _ D.TOz fO)
  refine wpAny_bind (wpAny_seqItems kO₂ rfl ?_)
  refine wpAny_bind (wpAny_updateSeq_pair kO₂ fun g₃ kO₃ ks₃ => ?_)
  replace kO₃ : IsPair g₃ pO x b := kO₃
  refine wpAny_bind (wpAny_letGo (wpAny_pure ?_))

  refine wpAny_bind (wpAny_bind (wpAny_onRaise ?_))
  show wpAny _ _ (Builtin.SmallTypes.nextOf (.ref jb) >>= _) _ _ _
  refine wpAny_bind (wpAny_nextOf_list_item (((fh2.extBut ks₁.extBut D.i2z).extBut ks₂.extBut D.i12.symm).extBut ks₃.extBut D.TOi2.symm)
    (((fb.extBut ks₁.extBut D.l2z).extBut ks₂.extBut D.l2i1).extBut ks₃.extBut D.l2TO) ey fun g₄ m2₄ ks₄ => wpAny_pure ?_)
  have kO₄ : IsPair g₄ pO x b := ks₄.extBut _ _ D.TOi2 kO₃
  refine wpAny_bind (wpAny_seqItems kO₄ rfl ?_)
  refine wpAny_bind (wpAny_updateSeq_pair kO₄ fun g₅ kO₅ ks₅ => ?_)
  replace kO₅ : IsPair g₅ pO x y := kO₅
  refine wpAny_bind (wpAny_letGo (wpAny_pure (wpAny_pure ?_)))

  refine wpAny_bind (wpAny_seqItems kO₅ rfl ?_)
  refine wpAny_bind (wpAny_newTuple ?_)
  have hsz : g₅.objs.size = s.heap.objs.size := by rw [ks₅.1, ks₄.1, ks₃.1, ks₂.1, ks₁.1]
  have kz₅ : IsZip g₅ zz pI pO .ellipsis := ks₅.extBut _ _ D.TOz.symm (ks₄.extBut _ _ D.i2z.symm (ks₃.extBut _ _ D.TOz.symm (ks₂.extBut _ _ D.i1z.symm kz₁)))
  have hk₅ : ∀ c o, c ≠ zz → c ≠ pO → c ≠ ja → c ≠ jb → s.heap.get? c = some o → g₅.get? c = some o := fun c o c1 c2 c3 c4 e =>
    ks₅.extBut _ _ c2 (ks₄.extBut _ _ c4 (ks₃.extBut _ _ c2 (ks₂.extBut _ _ c3 (ks₁.extBut _ _ c1 e))))
  have m1₅ : g₅.IsTupleIter ja la (na + 1) := ((m1₂.extBut ks₃.extBut D.TOi1.symm).extBut ks₄.extBut D.i12).extBut ks₅.extBut D.TOi1.symm
  have m2₅ : g₅.IsListIter jb lb (nb + 1) := m2₄.extBut ks₅.extBut D.TOi2.symm
  have hzlt : zz < g₅.objs.size := Heap.lt_size kz₅
  have hTOlt : pO < g₅.objs.size := Heap.lt_size kO₅
  have hi1lt : ja < g₅.objs.size := by obtain ⟨_, e, _⟩ := m1₅; exact Heap.lt_size e
  have hi2lt : jb < g₅.objs.size := by obtain ⟨_, e, _⟩ := m2₅; exact Heap.lt_size e
  show wpAny _ _ (Builtin.SmallTypes.ownedTupleHandOut (.ref zz) (.ref g₅.objs.size) >>= _) _ _ _
  refine wpAny_bind ?_
  unfold Builtin.SmallTypes.ownedTupleHandOut
  have kz₆ : IsZip (g₅.push { cls := .type "tuple", data := .seq #[x, y] }) zz pI pO .ellipsis := Heap.get?_push_of_some _ kz₅
  refine wpAny_bind (wpAny_setField_rec kz₆ (by simp) fun g₇ kz₇ ks₇ => ?_)
  replace kz₇ : IsZip g₇ zz pI pO (rawInt g₅.objs.size) := kz₇
  refine wpAny_setField_rec kz₇ (by simp) fun g₈ kz₈ ks₈ => ?_
  replace kz₈ : IsZip g₈ zz pI pO (rawInt g₅.objs.size) := kz₈
  have up : ∀ c o, c ≠ zz → g₅.get? c = some o → g₈.get? c = some o := fun c o c1 e => ks₈.extBut _ _ c1 (ks₇.extBut _ _ c1 (Heap.get?_push_of_some _ e))
  have kT₈ : IsPair g₈ g₅.objs.size x y := ks₈.extBut _ _ (Nat.ne_of_gt hzlt) (ks₇.extBut _ _ (Nat.ne_of_gt hzlt) (Heap.get?_push_size _ rfl))
  have hz8 : g₈.objs.size = g₅.objs.size + 1 := by rw [ks₈.1, ks₇.1, Heap.size_push]
  rw [hsz] at kz₈ kT₈ hz8
  refine wpAny_pure ⟨_, rfl, ?_⟩
  show Q (.ref g₅.objs.size) _
  rw [hsz]
  exact fQ g₈ kz₈ (up _ _ D.TOz kO₅) (m1₅.at fun o e => up _ o D.i1z e) (m2₅.at fun o e => up _ o D.i2z e) kT₈ hz8 fun c o c1 c2 c3 c4 e => up c o c1 (hk₅ c o c1 c2 c3 c4 e)


theorem zipM_end0 {zz pI pO ja jb la lb : Addr} {na nb : Nat} {us ws : Array Value} {a b : Value} {Q : Fin → Shared → Prop} (hh : A.handled = none) (D : ZipApart zz pI pO ja jb la lb)
    (fz_ : IsZip s.heap zz pI pO .none) (fI : IsPair s.heap pI (.ref ja) (.ref jb)) (fO : IsPair s.heap pO a b)
    (fh1 : s.heap.IsTupleIter ja la na) (fh2 : s.heap.IsListIter jb lb nb) (fa : s.heap.IsTuple la us) (fb : s.heap.IsList lb ws) (fend : us[na]? = none ∨ ws[nb]? = none)
    (fE : ∀ h' e, (∀ c o, c ≠ zz → c ≠ pO → c ≠ ja → c ≠ jb → s.heap.get? c = some o → h'.get? c = some o) → (∃ o, h'.get? e = some o ∧ o.cls = .type "StopIteration") → E (.ref e) { s with heap := h' }) :
    wpAny (model prog w) A (Builtin.«zip.__next__» ⟨[.ref zz], []⟩) Q E s := by
  show wpAny _ _ (field (.ref zz) 2 >>= _) _ _ _
  refine wpAny_bind (wpAny_field fz_ rfl (x := .bool false) rfl ?_)
  show wpAny _ _ (field (.ref zz) 3 >>= _) _ _ _
  refine wpAny_bind (wpAny_field fz_ rfl (x := .ref pI) rfl ?_)
  refine wpAny_bind (wpAny_seqItems fI rfl ?_)
  show wpAny _ _ (Builtin.SmallTypes.ownedTupleIsFree (.ref zz) >>= _) _ _ _
  refine wpAny_bind ?_
  unfold Builtin.SmallTypes.ownedTupleIsFree
  refine wpAny_bind (wpAny_field fz_ rfl (x := .none) rfl (wpAny_pure ?_))
  simp only [if_true]
  refine wpAny_bind (wpAny_rule ?_)
  refine wpAny_bind (wpAny_field fz_ rfl (x := .ref pO) rfl ?_)
  refine wpAny_bind (wpAny_setField_rec fz_ (by simp) fun g₁ kz₁ ks₁ => ?_)
  replace kz₁ : IsZip g₁ zz pI pO .ellipsis := kz₁
  refine wpAny_bind ?_
  simp only [List.zipIdx_cons, List.zipIdx_nil, List.forIn_cons, List.forIn_nil]
  refine wpAny_bind (wpAny_bind (wpAny_onRaise ?_))
  show wpAny _ _ (Builtin.SmallTypes.nextOf (.ref ja) >>= _) _ _ _
  cases ex : us[na]? with
  | none =>
    refine wpAny_bind (nextOf_tuple_end hh (fh1.extBut ks₁.extBut D.i1z) (fa.extBut ks₁.extBut D.l1z) ex fun g₂ e ks₂ he => ?_)
    obtain ⟨oe, hoe, hce⟩ := he
    have kz₂ : IsZip g₂ zz pI pO .ellipsis := ks₂ _ _ D.i1z.symm kz₁
    have hez : e ≠ zz := fun x => by subst x; rw [kz₂] at hoe; cases hoe; simp at hce
    refine wpAny_setField_rec kz₂ (by simp) fun g₃ _ ks₃ => fE g₃ e (fun c o c1 _ c3 _ x => ks₃.extBut _ _ c1 (ks₂ _ _ c3 (ks₁.extBut _ _ c1 x))) ⟨oe, ks₃.extBut _ _ hez hoe, hce⟩
  | some x =>
    have ey : ws[nb]? = none := by rcases fend with h | h; rw [ex] at h; cases h; exact h
    refine wpAny_bind (nextOf_tuple_item (fh1.extBut ks₁.extBut D.i1z) (fa.extBut ks₁.extBut D.l1z) ex fun g₂ m1₂ ks₂ => wpAny_pure ?_)
    have kO₂ : IsPair g₂ pO a b := ks₂.extBut _ _ D.TOi1 (ks₁.extBut _ _ D.TOz fO)
    refine wpAny_bind (wpAny_seqItems kO₂ rfl ?_)
    refine wpAny_bind (wpAny_updateSeq_pair kO₂ fun g₃ kO₃ ks₃ => ?_)
    refine wpAny_bind (wpAny_letGo (wpAny_pure ?_))
    refine wpAny_bind (wpAny_bind (wpAny_onRaise ?_))
    show wpAny _ _ (Builtin.SmallTypes.nextOf (.ref jb) >>= _) _ _ _
    refine wpAny_bind (wpAny_nextOf_list_end hh (((fh2.extBut ks₁.extBut D.i2z).extBut ks₂.extBut D.i12.symm).extBut ks₃.extBut D.TOi2.symm)
      (((fb.extBut ks₁.extBut D.l2z).extBut ks₂.extBut D.l2i1).extBut ks₃.extBut D.l2TO) ey fun g₄ e ks₄ he => ?_)
    obtain ⟨oe, hoe, hce⟩ := he
    have kz₄ : IsZip g₄ zz pI pO .ellipsis := ks₄ _ _ D.i2z.symm (ks₃.extBut _ _ D.TOz.symm (ks₂.extBut _ _ D.i1z.symm kz₁))
    have hez : e ≠ zz := fun x => by subst x; rw [kz₄] at hoe; cases hoe; simp at hce
    refine wpAny_setField_rec kz₄ (by simp) fun g₅ _ ks₅ => fE g₅ e (fun c o c1 c2 c3 c4 x => ks₅.extBut _ _ c1 (ks₄ _ _ c4 (ks₃.extBut _ _ c2 (ks₂.extBut _ _ c3 (ks₁.extBut _ _ c1 x))))) ⟨oe, ks₅.extBut _ _ hez hoe, hce⟩


theorem pyNext_zipM_item {zz pI pO ja jb la lb : Addr} {na nb : Nat} {us ws : Array Value} {x y a b : Value} {Q : Option Value → Shared → Prop} (D : ZipApart zz pI pO ja jb la lb)
    (fz_ : IsZip s.heap zz pI pO .none) (fI : IsPair s.heap pI (.ref ja) (.ref jb)) (fO : IsPair s.heap pO a b)
    (fh1 : s.heap.IsTupleIter ja la na) (fh2 : s.heap.IsListIter jb lb nb) (fa : s.heap.IsTuple la us) (fb : s.heap.IsList lb ws) (ex : us[na]? = some x) (ey : ws[nb]? = some y)
    (fQ : ∀ h', IsZip h' zz pI pO (rawInt s.heap.objs.size) → IsPair h' pO x y → h'.IsTupleIter ja la (na + 1) → h'.IsListIter jb lb (nb + 1) → IsPair h' s.heap.objs.size x y → h'.objs.size = s.heap.objs.size + 1 →
      (∀ c o, c ≠ zz → c ≠ pO → c ≠ ja → c ≠ jb → s.heap.get? c = some o → h'.get? c = some o) → Q (some (.ref s.heap.objs.size)) { s with heap := h' }) :
    wpAny (model prog w) A (pyNext (.ref zz)) Q E s := by
  have hT : s.TypeIs (.ref zz) "zip" := ⟨_, fz_, rfl⟩
  unfold pyNext
  exact wpAny_bind (wpAny_attempt (wpAny_callSpecial?_slot (name := Str.ofString "__next__") hT F.slot_zip_next
    (wpAny_call_entry F.slot_zip_next hT F.entry_zip_next
      (zipM_item0 D fz_ fI fO fh1 fh2 fa fb ex ey fun h' a1 a2 a3 a4 a5 a6 a7 => wpAny_pure (fQ h' a1 a2 a3 a4 a5 a6 a7)) (F.args_zip_next_1 _))))


theorem pyNext_zipM_end {zz pI pO ja jb la lb : Addr} {na nb : Nat} {us ws : Array Value} {a b : Value} {Q : Option Value → Shared → Prop} (hh : A.handled = none) (D : ZipApart zz pI pO ja jb la lb)
    (fz_ : IsZip s.heap zz pI pO .none) (fI : IsPair s.heap pI (.ref ja) (.ref jb)) (fO : IsPair s.heap pO a b)
    (fh1 : s.heap.IsTupleIter ja la na) (fh2 : s.heap.IsListIter jb lb nb) (fa : s.heap.IsTuple la us) (fb : s.heap.IsList lb ws) (fend : us[na]? = none ∨ ws[nb]? = none)
    (fQ : ∀ h', (∀ c o, c ≠ zz → c ≠ pO → c ≠ ja → c ≠ jb → s.heap.get? c = some o → h'.get? c = some o) → Q none { s with heap := h' }) : wpAny (model prog w) A (pyNext (.ref zz)) Q E s := by
  have hT : s.TypeIs (.ref zz) "zip" := ⟨_, fz_, rfl⟩
  unfold pyNext
  refine wpAny_bind (wpAny_attempt (wpAny_callSpecial?_slot (name := Str.ofString "__next__") hT F.slot_zip_next
    (wpAny_call_entry F.slot_zip_next hT F.entry_zip_next (zipM_end0 hh D fz_ fI fO fh1 fh2 fa fb fend fun h' e hk he => ?_) (F.args_zip_next_1 _))))
  obtain ⟨o, ho, hc⟩ := he
  refine wpAny_bind (wpAny_isInstance (T := "StopIteration") (b := true) ⟨o, ho, hc⟩ isSubtype_stop ?_)
  exact wpAny_pure (fQ _ hk)

end
abbrev zipMH1 (h : Heap) (la : Addr) : Heap := h.push { cls := .type "tuple_iterator", data := .fields #[.ref la, .int 0 0] }
abbrev zipMH2 (h : Heap) (la lb : Addr) : Heap := (zipMH1 h la).push { cls := .type "list_iterator", data := .fields #[.ref lb, .int 0 0] }
abbrev zipMH3 (h : Heap) (la lb : Addr) : Heap := (zipMH2 h la lb).push { cls := .type "tuple", data := .seq #[.ref h.objs.size, .ref (zipMH1 h la).objs.size] }
abbrev zipMH4 (h : Heap) (la lb : Addr) : Heap := (zipMH3 h la lb).push { cls := .type "tuple", data := .seq #[.none, .none] }
abbrev zipMH5 (h : Heap) (la lb : Addr) : Heap := (zipMH4 h la lb).push { cls := .type "zip", data := .fields #[.none, .bool false, .bool false, .ref (zipMH2 h la lb).objs.size, .ref (zipMH3 h la lb).objs.size] }


theorem meets_zipM_new (la lb : Addr) (us ws : Array Value) :
    Meets (Builtin.«zip.__new__» ⟨[.type "zip", .ref la, .ref lb], []⟩) (fun _ R s => s.heap.IsTuple la us ∧ s.heap.IsList lb ws ∧
      R (.ok (.ret (.ref (zipMH4 s.heap la lb).objs.size))) { s with heap := zipMH5 s.heap la lb }) :=
  .of_wp fun prog w A R s h => by
    obtain ⟨hp, g, d, tk, os⟩ := s; obtain ⟨fa, fb, h⟩ := h
    have hsub := sub_zip
    have hL1 : Heap.IsTuple (Shared.heap ⟨hp, g, d, tk, os⟩) la us := fa
    have hL2 : Heap.IsList (Shared.heap ⟨hp.push { cls := .type "tuple_iterator", data := .fields #[.ref la, .int 0 0] }, g, d, tk, os⟩) lb ws := Heap.IsList.push fb _
    wp_walk using wpAny_pyIter_tuple hL1, wpAny_pyIter_list hL2
    exact ⟨_, rfl, h⟩


section
variable {prog : Program} {w : World} {A : Around} {E : Value → Shared → Prop} {s : Shared}
theorem call_zipM {la lb : Addr} {us ws : Array Value} {Q : Value → Shared → Prop} (fa : s.heap.IsTuple la us) (fb : s.heap.IsList lb ws)
    (h : ∀ h', IsZip h' (s.heap.objs.size + 4) (s.heap.objs.size + 2) (s.heap.objs.size + 3) .none → IsPair h' (s.heap.objs.size + 2) (.ref s.heap.objs.size) (.ref (s.heap.objs.size + 1)) →
      IsPair h' (s.heap.objs.size + 3) .none .none → h'.IsTupleIter s.heap.objs.size la 0 → h'.IsListIter (s.heap.objs.size + 1) lb 0 → h'.objs.size = s.heap.objs.size + 5 →
      (∀ c o, s.heap.get? c = some o → h'.get? c = some o) → Q (.ref (s.heap.objs.size + 4)) { s with heap := h' }) :
    wpAny (model prog w) A (call (.type "zip") [.ref la, .ref lb]) Q E s := by
  refine callType_new F.called_zip (by decide) (F.typeCall_zip_2 _ _) (F.newCall_zip_2 _ _) (fun obj => F.args_object_init_3 obj _ _) F.entry_zip_new
    (meets_zipM_new la lb us ws) ⟨fa, fb, ?_⟩
  have z1 : (zipMH1 s.heap la).objs.size = s.heap.objs.size + 1 := Heap.size_push ..
  have z2 : (zipMH2 s.heap la lb).objs.size = s.heap.objs.size + 2 := by rw [Heap.size_push, z1]
  have z3 : (zipMH3 s.heap la lb).objs.size = s.heap.objs.size + 3 := by rw [Heap.size_push, z2]
  have z4 : (zipMH4 s.heap la lb).objs.size = s.heap.objs.size + 4 := by rw [Heap.size_push, z3]
  have z5 : (zipMH5 s.heap la lb).objs.size = s.heap.objs.size + 5 := by rw [Heap.size_push, z4]
  have g5 : (zipMH5 s.heap la lb).get? (zipMH4 s.heap la lb).objs.size = some _ := Heap.get?_push_size _ rfl
  have g4 : (zipMH5 s.heap la lb).get? (zipMH3 s.heap la lb).objs.size = some _ := Heap.get?_push_of_some _ (Heap.get?_push_size _ rfl)
  have g3 : (zipMH5 s.heap la lb).get? (zipMH2 s.heap la lb).objs.size = some _ := Heap.get?_push_of_some _ (Heap.get?_push_of_some _ (Heap.get?_push_size _ rfl))
  have g2 : (zipMH5 s.heap la lb).get? (zipMH1 s.heap la).objs.size = some _ := Heap.get?_push_of_some _ (Heap.get?_push_of_some _ (Heap.get?_push_of_some _ (Heap.get?_push_size _ rfl)))
  have g1 : (zipMH5 s.heap la lb).get? s.heap.objs.size = some _ := Heap.get?_push_of_some _ (Heap.get?_push_of_some _ (Heap.get?_push_of_some _ (Heap.get?_push_of_some _ (Heap.get?_push_size _ rfl))))
  show _ ∧ _
  rw [z2, z3, z4] at g5
  rw [z1, z2] at g3
  rw [z3] at g4
  rw [z1] at g2
  rw [z4]
  exact ⟨⟨_, g5, rfl⟩, h _ g5 g3 g4 ⟨_, g1, rfl, rfl⟩ ⟨_, g2, rfl, rfl⟩ z5 fun c o x =>
    Heap.get?_push_of_some _ (Heap.get?_push_of_some _ (Heap.get?_push_of_some _ (Heap.get?_push_of_some _ (Heap.get?_push_of_some _ x))))⟩

end
end
open PySem PySem.Spec PyProof.Rows L2
def ItzM (K : PySem.W.Frag) (a b : Addr) : It :=
  ⟨fun i H => ∃ (us ws : List V) (x y : V), SqT K H a us ∧ SqL K H b ws ∧ us[i]? = some x ∧ ws[i]? = some y,
    fun i H v H' => ∃ T x y, v = .ref T ∧ H T = none ∧ H' = upd H T (.tup [x, y]) ∧ (∀ us, SqT K H a us → us[i]? = some x) ∧ ∀ ws, SqL K H b ws → ws[i]? = some y,
    fun i H => ∃ us ws : List V, SqT K H a us ∧ SqL K H b ws ∧ (us.length ≤ i ∨ ws.length ≤ i)⟩
theorem turn_zipM {P : Program} {w : World} {K : PySem.W.Frag} {elts : List Expr} {kk : Nat} {tpos : Pos} {a b zz pI pO ja jb : Addr} (D : ZipApart zz pI pO ja jb a b) :
    Turn P w K (.Tuple elts kk tpos) (ItzM K a b) [zz, pI, pO, ja, jb] zz (fun i h => IsZip h zz pI pO .none ∧ IsPair h pI (.ref ja) (.ref jb) ∧ (∃ x y, IsPair h pO x y) ∧ h.IsTupleIter ja a i ∧ h.IsListIter jb b i) where
  mem := by simp
  obj := fun i h st c hc => by
    obtain ⟨fz_, fI, ⟨x, y, fO⟩, ⟨o1, e1, _, d1⟩, ⟨o2, e2, _, d2⟩⟩ := st
    have e' : c = zz ∨ c = pI ∨ c = pO ∨ c = ja ∨ c = jb := by simpa using hc
    rcases e' with q | q | q | q | q
    · rw [q]; exact ⟨_, fz_, fun v q => nomatch q⟩
    · rw [q]; exact ⟨_, fI, fun v q => nomatch q⟩
    · rw [q]; exact ⟨_, fO, fun v q => nomatch q⟩
    · rw [q]; exact ⟨o1, e1, fun v q => by rw [d1] at q; cases q⟩
    · rw [q]; exact ⟨o2, e2, fun v q => by rw [d2] at q; cases q⟩
  keep := fun i h h' st k => by
    obtain ⟨fz_, fI, ⟨x, y, fO⟩, fh1, fh2⟩ := st
    exact ⟨k zz (by simp) _ fz_, k pI (by simp) _ fI, ⟨x, y, k pO (by simp) _ fO⟩, fh1.at fun o q => k ja (by simp) o q, fh2.at fun o q => k jb (by simp) o q⟩
  item := by
    intro X hP hw hK hc i pins s σ H E I hf st hg
    subst hP hw hK
    obtain ⟨fz_, fI, ⟨x0, y0, fO⟩, fh1, fh2⟩ := st
    obtain ⟨us, ws, x, y, hqx, hqy, ex, ey⟩ := hg
    obtain ⟨its, rv, p, _⟩ := I.tuple hqx
    obtain ⟨its2, rv2, p2, _⟩ := I.list hqy
    obtain ⟨u, hu, ru⟩ := rv.get ex
    obtain ⟨u2, hu2, ru2⟩ := rv2.get ey
    have hzl : zz < s.heap.objs.size := Heap.lt_size fz_
    refine pyNext_zipM_item D fz_ fI fO fh1 fh2 p p2.isList (x := u) (y := u2) (by simpa using hu) (by simpa using hu2) fun h' z' TO' h1' h2' hT hsz hk => ?_
    refine ⟨_, rfl, wpAny_letOwnedTupleGo_zip (s := { s with heap := h' }) z' fun h'' z'' sb => ?_⟩
    have hT2 : h''.get? s.heap.objs.size = some { cls := .type "tuple", data := .seq #[u, u2] } := (sb.2 _ (Nat.ne_of_gt hzl)).trans hT
    have new : ObjOk X.prog X.w (upd H s.heap.objs.size (.tup [x, y])) h'' s.heap.objs.size (.tup [x, y]) :=
      ⟨by show 2 ≤ sizeLine; decide, [u, u2], .cons ru (.cons ru2 .nil), ⟨_, hT2, rfl, _, rfl⟩⟩
    have I1 : Inv X pins σ (upd H s.heap.objs.size (.tup [x, y])) { s with heap := h'' } :=
      I.turnedNew (t' := s.toks) (ch := [zz, pI, pO, ja, jb]) (fun c o hb q => (sb.2 c (fun q' => hb (by simp [q']))).trans (hk c o (fun q' => hb (by simp [q'])) (fun q' => hb (by simp [q'])) (fun q' => hb (by simp [q'])) (fun q' => hb (by simp [q'])) q)) hf (Nat.le_refl _) new
    refine ⟨.ref s.heap.objs.size, _, I1, rfl, ⟨_, x, y, rfl, I.hok.fresh (Nat.le_refl _), rfl, fun l hl => by rw [I.tuple_inj hl hqx]; exact ex, fun l hl => by rw [I.list_inj hl hqy]; exact ey⟩, ⟨z'', ?_, ⟨u, u2, ?_⟩, ?_, ?_⟩, fun c hcm => ?_⟩
    · exact (sb.2 _ D.TIz).trans (hk _ _ D.TIz D.TITO D.TIi1 D.TIi2 fI)
    · exact (sb.2 _ D.TOz).trans TO'
    · exact h1'.at fun o q => (sb.2 _ D.i1z).trans q
    · exact h2'.at fun o q => (sb.2 _ D.i2z).trans q
    · have hlt : c < s.heap.objs.size := by
        have e' : c = zz ∨ c = pI ∨ c = pO ∨ c = ja ∨ c = jb := by simpa using hcm
        rcases e' with q | q | q | q | q
        · rw [q]; exact hzl
        · rw [q]; exact Heap.lt_size fI
        · rw [q]; exact Heap.lt_size fO
        · rw [q]; obtain ⟨_, e1, _⟩ := fh1; exact Heap.lt_size e1
        · rw [q]; obtain ⟨_, e2, _⟩ := fh2; exact Heap.lt_size e2
      rw [upd_ne (Nat.ne_of_lt hlt)]
      exact (hf c hcm).1
  done := by
    intro X hP hw hK hc i pins s σ H E I hf st hg
    subst hP hw hK
    obtain ⟨fz_, fI, ⟨x0, y0, fO⟩, fh1, fh2⟩ := st
    obtain ⟨us, ws, hqx, hqy, fend⟩ := hg
    obtain ⟨its, rv, p, _⟩ := I.tuple hqx
    obtain ⟨its2, rv2, p2, _⟩ := I.list hqy
    have la := rv.length
    have lb := rv2.length
    have he : its.toArray[i]? = none ∨ its2.toArray[i]? = none := by
      rcases fend with q | q
      · exact .inl (by simp; omega)
      · exact .inr (by simp; omega)
    exact pyNext_zipM_end (I.ok.hd hc) D fz_ fI fO fh1 fh2 p p2.isList he fun h' hk => ⟨rfl, I.turnedL (t' := s.toks) (ch := [zz, pI, pO, ja, jb]) (fun c o hb q =>
      hk c o (fun q' => hb (by simp [q'])) (fun q' => hb (by simp [q'])) (fun q' => hb (by simp [q'])) (fun q' => hb (by simp [q'])) q) hf⟩
  self := fun A i s Q E st h => wpAny_pyIter_zip st.1 h


end Wi

namespace Wi
open PySem PySem.Spec PyProof.Rows L2

noncomputable def notOwn (P : Addr → Prop) (H : Hp) : Hp := fun a => open Classical in if P a then none else H a
theorem notOwn_no {P : Addr → Prop} {H : Hp} {a : Addr} (h : ¬ P a) : notOwn P H a = H a := by unfold notOwn; rw [if_neg h]
theorem notOwn_yes {P : Addr → Prop} {H : Hp} {a : Addr} (h : P a) : notOwn P H a = none := by unfold notOwn; rw [if_pos h]
theorem notOwn_same {P : Addr → Prop} {H : Hp} : Same (notOwn P H) H := fun a o e => by
  by_cases h : P a
  · rw [notOwn_yes h] at e; cases e
  · rw [notOwn_no h] at e; exact e
/-- the own lists but those at L (for a loop whose body may change them) -/
def Pb (b : Bool) (σ : Sg) (env : En) (L : List Nat) (a : Addr) : Prop := b = true ∧ ∃ i, i ∉ L ∧ OwnAt σ env i a
/-- what the items may not hold -/
def Og (b : Bool) (Ox : Addr → Prop) (σ : Sg) (env : En) (L : List Nat) (a : Addr) : Prop := Ox a ∨ (b = false ∧ ∃ i, i ∉ L ∧ OwnAt σ env i a)
/-- an iterator that yields the items its -/
structure Good (K : PySem.W.Frag) (Ox : Addr → Prop) (Hf : Hp) (J : It) (its : List D) : Prop where
  stop : ∀ i H, Same Hf H → its.length ≤ i → J.stop i H
  go : ∀ (i : Nat) d H, Same Hf H → its[i]? = some d → J.go i H
  yld : ∀ (i : Nat) d H x H', Same Hf H → its[i]? = some d → J.yld i H x H' → Same H H' ∧ ∀ O : Addr → Prop, (∀ a, O a → Ox a ∨ Hf a = none) → (∀ a, O a → ∃ xs, H a = some (.lst xs)) → Rep K O H' x d
def RP (K : PySem.W.Frag) (O P : Addr → Prop) (H : Hp) (v : V) : D → Prop
  | .list ds => ∃ a vs, v = .ref a ∧ ¬ P a ∧ H a = some (.lst vs) ∧ Reps K O H vs ds
  | d => Rep K O H v d
inductive RPs (K : PySem.W.Frag) (O P : Addr → Prop) (H : Hp) : List V → List D → Prop
  | nil : RPs K O P H [] []
  | cons {v : V} {vs : List V} {d : D} {ds : List D} : RP K O P H v d → RPs K O P H vs ds → RPs K O P H (v :: vs) (d :: ds)
section
variable {K : PySem.W.Frag} {O Ox P : Addr → Prop} {H : Hp} {v : V} {d : D}
theorem RC.rp (h : RC K O H v d) : RP K O (fun _ => False) H v d := by
  cases d with
  | list ds => obtain ⟨a, vs, e, e2, r⟩ := h; exact ⟨a, vs, e, id, e2, r⟩
  | _ => exact h
theorem Rep.rp (h : Rep K O H v d) (po : ∀ a, P a → O a) : RP K O P H v d := by
  cases d with
  | list ds =>
    cases h with
    | lst n e r => exact ⟨_, _, rfl, fun z => n (po _ z), e, r⟩
  | _ => exact h
theorem rp_items {xs : List D} (h : RP K O P H v d) (e : items d = some xs) : ∃ a vs, v = .ref a ∧ (¬ P a ∧ H a = some (.lst vs) ∧ d = .list xs ∨ SqT K H a vs ∧ d = .tuple xs) ∧ Reps K O H vs xs := by
  cases d with
  | list ds =>
    cases e
    obtain ⟨a, vs, e, p, e2, r⟩ := h
    exact ⟨a, vs, e, .inl ⟨p, e2, rfl⟩, r⟩
  | tuple ds =>
    cases e
    cases (show Rep K O H v (.tuple xs) from h) with
    | tup a b => exact ⟨_, _, rfl, .inr ⟨a, rfl⟩, b⟩
  | _ => cases e
theorem rps1 {vs : List V} {d : D} (h : RPs K O P H vs [d]) : ∃ v, vs = [v] ∧ RP K O P H v d := by
  cases h with
  | cons r t => cases t; exact ⟨_, rfl, r⟩
theorem rps2 {vs : List V} {d e : D} (h : RPs K O P H vs [d, e]) : ∃ v u, vs = [v, u] ∧ RP K O P H v d ∧ RP K O P H u e := by
  cases h with
  | cons r t => obtain ⟨u, rfl, q⟩ := rps1 t; exact ⟨_, _, rfl, r, q⟩
theorem rps3 {vs : List V} {d e f : D} (h : RPs K O P H vs [d, e, f]) : ∃ v u w, vs = [v, u, w] ∧ RP K O P H v d ∧ RP K O P H u e ∧ RP K O P H w f := by
  cases h with
  | cons r t => obtain ⟨u, w, rfl, q⟩ := rps2 t; exact ⟨_, _, _, rfl, r, q⟩
/-- what holds at the heap without P, later -/
theorem rep_later {H' : Hp} (ol : ∀ a, O a → ∃ xs, H a = some (.lst xs)) (po : ∀ a, Ox a ∨ P a → O a) (s : Same (notOwn P H) H') {v : V} {d : D} (h : Rep K O H v d) :
    ∀ O' : Addr → Prop, (∀ a, O' a → Ox a ∨ notOwn P H a = none) → Rep K O' H' v d := fun O' oo => by
  have h1 : Rep K (fun a => Ox a ∨ P a) H v d := rep_weak ol po h
  refine Rep.mono (fun a o e n => s a o ?_) (fun a z => ol a (po a z)) (fun a z => ?_) d v h1
  · rw [notOwn_no (fun z => n (.inr z))]; exact e
  · rcases oo a z with q | q
    · exact .inl (.inl q)
    · by_cases p : P a
      · exact .inl (.inr p)
      · rw [notOwn_no p] at q; exact .inr q
theorem seq_later {a : Addr} {vs : List V} {H' : Hp} (p : ¬ P a) (e : H a = some (.lst vs)) (s : Same (notOwn P H) H') : SqL K H' a vs :=
  .inl (.inl (s _ _ (by rw [notOwn_no p]; exact e)))
theorem tup_later {a : Addr} {vs : List V} {H' : Hp} (pl : ∀ a, P a → ∃ xs, H a = some (.lst xs)) (h : SqT K H a vs) (s : Same (notOwn P H) H') : SqT K H' a vs := by
  rcases h with (h | ⟨o, h⟩) | h
  · refine .inl (.inl (s _ _ ?_))
    rw [notOwn_no (fun z => by obtain ⟨xs, e⟩ := pl _ z; rw [h] at e; cases e)]; exact h
  · refine .inl (.inr ⟨o, s _ _ ?_⟩)
    rw [notOwn_no (fun z => by obtain ⟨xs, e⟩ := pl _ z; rw [h] at e; cases e)]; exact h
  · exact .inr h
end
section
variable {X : Cx} {K : PySem.W.Frag} {O Ox P : Addr → Prop} {H : Hp} {a b : Addr} {vs us : List V} {xs ys : List D}
theorem good_list (ol : ∀ a, O a → ∃ xs, H a = some (.lst xs)) (po : ∀ a, Ox a ∨ P a → O a) (p : ¬ P a) (e : H a = some (.lst vs)) (r : Reps K O H vs xs) : Good K Ox (notOwn P H) (Itl K a) xs where
  stop := fun i H' s hi => ⟨vs, seq_later p e s, by rw [r.length]; exact hi⟩
  go := fun i d H' s hd => let ⟨v, e1, _⟩ := r.get hd; ⟨vs, v, seq_later p e s, e1⟩
  yld := fun i d H' x H'' s hd ⟨e1, h⟩ => by
    subst e1
    obtain ⟨v, e2, rv⟩ := r.get hd
    have := h vs (seq_later p e s)
    rw [e2] at this
    cases this
    exact ⟨Same.refl _, fun O' oo _ => rep_later ol po s rv O' oo⟩
theorem good_tup (ol : ∀ a, O a → ∃ xs, H a = some (.lst xs)) (po : ∀ a, Ox a ∨ P a → O a) (e : SqT K H a vs) (r : Reps K O H vs xs) : Good K Ox (notOwn P H) (Itt K a) xs where
  stop := fun i H' s hi => ⟨vs, tup_later (fun a z => ol a (po a (.inr z))) e s, by rw [r.length]; exact hi⟩
  go := fun i d H' s hd => let ⟨v, e1, _⟩ := r.get hd; ⟨vs, v, tup_later (fun a z => ol a (po a (.inr z))) e s, e1⟩
  yld := fun i d H' x H'' s hd ⟨e1, h⟩ => by
    subst e1
    obtain ⟨v, e2, rv⟩ := r.get hd
    have := h vs (tup_later (fun a z => ol a (po a (.inr z))) e s)
    rw [e2] at this
    cases this
    exact ⟨Same.refl _, fun O' oo _ => rep_later ol po s rv O' oo⟩
theorem rg_length (lo : Int) (n : Nat) : (rg lo n).length = n := by unfold rg; simp
theorem rg_get {lo : Int} {n i : Nat} {d : D} (h : (rg lo n)[i]? = some d) : i < n ∧ d = .int (lo + (i : Int)) := by
  unfold rg at h
  rw [List.getElem?_map] at h
  obtain ⟨k, e1, e2⟩ := Option.map_eq_some_iff.mp h
  obtain ⟨h1, h2⟩ := List.getElem?_eq_some_iff.mp e1
  rw [List.length_range] at h1
  rw [List.getElem_range] at h2
  subst h2
  exact ⟨h1, e2.symm⟩
theorem good_rng (lo : Int) (n : Nat) {Hf : Hp} : Good K Ox Hf (Itr lo n) (rg lo n) where
  stop := fun i H' s hi => by rw [rg_length] at hi; exact hi
  go := fun i d H' s hd => (rg_get hd).1
  yld := fun i d H' x H'' s hd ⟨e1, e2⟩ => by
    subst e1 e2
    rw [(rg_get hd).2]
    exact ⟨Same.refl _, fun O' oo _ => .int _⟩
theorem good_enum (ol : ∀ a, O a → ∃ xs, H a = some (.lst xs)) (po : ∀ a, Ox a ∨ P a → O a) (p : ¬ P a) (e : H a = some (.lst vs)) (r : Reps K O H vs xs) :
    Good K Ox (notOwn P H) (Ite K a) (xs.zipIdx.map fun p => .tuple [.int (p.2 : Nat), p.1]) where
  stop := fun i H' s hi => ⟨vs, seq_later p e s, by rw [r.length]; simpa using hi⟩
  go := fun i d H' s hd => by
    rw [List.getElem?_map, List.getElem?_zipIdx] at hd
    obtain ⟨q, e1, e2⟩ := Option.map_eq_some_iff.mp hd
    obtain ⟨y, e3, e4⟩ := Option.map_eq_some_iff.mp e1
    obtain ⟨v, e5, _⟩ := r.get e3
    exact ⟨vs, v, seq_later p e s, e5⟩
  yld := fun i d H' x H'' s hd ⟨T, w, e1, n, e2, h⟩ => by
    subst e1 e2
    rw [List.getElem?_map, List.getElem?_zipIdx] at hd
    obtain ⟨q, e1, e2⟩ := Option.map_eq_some_iff.mp hd
    obtain ⟨y, e3, e4⟩ := Option.map_eq_some_iff.mp e1
    subst e4 e2
    obtain ⟨v, e5, rv⟩ := r.get e3
    have := h vs (seq_later p e s)
    rw [e5] at this
    cases this
    refine ⟨same_new n, fun O' oo oh => ?_⟩
    have e0 : ((0 + i : Nat) : Int) = (i : Int) := by omega
    show Rep K O' (upd H' T (.tup [.int (i : Nat), w])) (.ref T) (.tuple [.int ((0 + i : Nat) : Int), y])
    rw [e0]
    exact .tup (SqT.of upd_same) (.cons (.int _) (.cons (rep_ext (same_new n) oh (rep_later ol po s rv O' oo)) .nil))
theorem zip_get {α β : Type} {xs : List α} {ys : List β} {i : Nat} {p : α × β} (h : (xs.zip ys)[i]? = some p) : xs[i]? = some p.1 ∧ ys[i]? = some p.2 := by
  rw [List.getElem?_zip_eq_some] at h
  exact h
theorem good_zipL (ol : ∀ a, O a → ∃ xs, H a = some (.lst xs)) (po : ∀ a, Ox a ∨ P a → O a) (p : ¬ P a) (e : H a = some (.lst vs)) (r : Reps K O H vs xs) (p2 : ¬ P b) (e2 : H b = some (.lst us)) (r2 : Reps K O H us ys) :
    Good K Ox (notOwn P H) (Itz K a b) ((xs.zip ys).map fun p => .tuple [p.1, p.2]) where
  stop := fun i H' s hi => ⟨vs, us, seq_later p e s, seq_later p2 e2 s, by
    rw [List.length_map, List.length_zip] at hi
    rw [r.length, r2.length]; omega⟩
  go := fun i d H' s hd => by
    rw [List.getElem?_map] at hd
    obtain ⟨q, e3, e4⟩ := Option.map_eq_some_iff.mp hd
    obtain ⟨e5, e6⟩ := zip_get e3
    obtain ⟨v, e7, _⟩ := r.get e5
    obtain ⟨u, e8, _⟩ := r2.get e6
    exact ⟨vs, us, v, u, seq_later p e s, seq_later p2 e2 s, e7, e8⟩
  yld := fun i d H' x H'' s hd ⟨T, w, w2, e1, n, e3, h, h2⟩ => by
    subst e1 e3
    rw [List.getElem?_map] at hd
    obtain ⟨q, e3, e4⟩ := Option.map_eq_some_iff.mp hd
    subst e4
    obtain ⟨e5, e6⟩ := zip_get e3
    obtain ⟨v, e7, rv⟩ := r.get e5
    obtain ⟨u, e8, ru⟩ := r2.get e6
    have := h vs (seq_later p e s)
    rw [e7] at this; cases this
    have := h2 us (seq_later p2 e2 s)
    rw [e8] at this; cases this
    exact ⟨same_new n, fun O' oo oh => .tup (SqT.of upd_same) (.cons (rep_ext (same_new n) oh (rep_later ol po s rv O' oo)) (.cons (rep_ext (same_new n) oh (rep_later ol po s ru O' oo)) .nil))⟩
theorem good_zipT (ol : ∀ a, O a → ∃ xs, H a = some (.lst xs)) (po : ∀ a, Ox a ∨ P a → O a) (e : SqT K H a vs) (r : Reps K O H vs xs) (e2 : SqT K H b us) (r2 : Reps K O H us ys) :
    Good K Ox (notOwn P H) (RZ.ItzT K a b) ((xs.zip ys).map fun p => .tuple [p.1, p.2]) where
  stop := fun i H' s hi => ⟨vs, us, tup_later (fun a z => ol a (po a (.inr z))) e s, tup_later (fun a z => ol a (po a (.inr z))) e2 s, by
    rw [List.length_map, List.length_zip] at hi
    rw [r.length, r2.length]; omega⟩
  go := fun i d H' s hd => by
    rw [List.getElem?_map] at hd
    obtain ⟨q, e3, e4⟩ := Option.map_eq_some_iff.mp hd
    obtain ⟨e5, e6⟩ := zip_get e3
    obtain ⟨v, e7, _⟩ := r.get e5
    obtain ⟨u, e8, _⟩ := r2.get e6
    exact ⟨vs, us, v, u, tup_later (fun a z => ol a (po a (.inr z))) e s, tup_later (fun a z => ol a (po a (.inr z))) e2 s, e7, e8⟩
  yld := fun i d H' x H'' s hd ⟨T, w, w2, e1, n, e3, h, h2⟩ => by
    subst e1 e3
    rw [List.getElem?_map] at hd
    obtain ⟨q, e3, e4⟩ := Option.map_eq_some_iff.mp hd
    subst e4
    obtain ⟨e5, e6⟩ := zip_get e3
    obtain ⟨v, e7, rv⟩ := r.get e5
    obtain ⟨u, e8, ru⟩ := r2.get e6
    have := h vs (tup_later (fun a z => ol a (po a (.inr z))) e s)
    rw [e7] at this; cases this
    have := h2 us (tup_later (fun a z => ol a (po a (.inr z))) e2 s)
    rw [e8] at this; cases this
    exact ⟨same_new n, fun O' oo oh => .tup (SqT.of upd_same) (.cons (rep_ext (same_new n) oh (rep_later ol po s rv O' oo)) (.cons (rep_ext (same_new n) oh (rep_later ol po s ru O' oo)) .nil))⟩
theorem good_zipM (ol : ∀ a, O a → ∃ xs, H a = some (.lst xs)) (po : ∀ a, Ox a ∨ P a → O a) (e : SqT K H a vs) (r : Reps K O H vs xs) (p2 : ¬ P b) (e2 : H b = some (.lst us)) (r2 : Reps K O H us ys) :
    Good K Ox (notOwn P H) (ItzM K a b) ((xs.zip ys).map fun p => .tuple [p.1, p.2]) where
  stop := fun i H' s hi => ⟨vs, us, tup_later (fun a z => ol a (po a (.inr z))) e s, seq_later p2 e2 s, by
    rw [List.length_map, List.length_zip] at hi
    rw [r.length, r2.length]; omega⟩
  go := fun i d H' s hd => by
    rw [List.getElem?_map] at hd
    obtain ⟨q, e3, e4⟩ := Option.map_eq_some_iff.mp hd
    obtain ⟨e5, e6⟩ := zip_get e3
    obtain ⟨v, e7, _⟩ := r.get e5
    obtain ⟨u, e8, _⟩ := r2.get e6
    exact ⟨vs, us, v, u, tup_later (fun a z => ol a (po a (.inr z))) e s, seq_later p2 e2 s, e7, e8⟩
  yld := fun i d H' x H'' s hd ⟨T, w, w2, e1, n, e3, h, h2⟩ => by
    subst e1 e3
    rw [List.getElem?_map] at hd
    obtain ⟨q, e3, e4⟩ := Option.map_eq_some_iff.mp hd
    subst e4
    obtain ⟨e5, e6⟩ := zip_get e3
    obtain ⟨v, e7, rv⟩ := r.get e5
    obtain ⟨u, e8, ru⟩ := r2.get e6
    have := h vs (tup_later (fun a z => ol a (po a (.inr z))) e s)
    rw [e7] at this; cases this
    have := h2 us (seq_later p2 e2 s)
    rw [e8] at this; cases this
    exact ⟨same_new n, fun O' oo oh => .tup (SqT.of upd_same) (.cons (rep_ext (same_new n) oh (rep_later ol po s rv O' oo)) (.cons (rep_ext (same_new n) oh (rep_later ol po s ru O' oo)) .nil))⟩
theorem rev_get {α : Type} {xs : List α} {i : Nat} {d : α} (h : xs.reverse[i]? = some d) : i < xs.length ∧ xs[xs.length - 1 - i]? = some d := by
  have hi : i < xs.length := by
    have := (List.getElem?_eq_some_iff.mp h).1
    simpa using this
  rw [List.getElem?_reverse hi] at h
  exact ⟨hi, h⟩
theorem good_revL (ol : ∀ a, O a → ∃ xs, H a = some (.lst xs)) (po : ∀ a, Ox a ∨ P a → O a) (p : ¬ P a) (e : H a = some (.lst vs)) (r : Reps K O H vs xs) : Good K Ox (notOwn P H) (Itv K a vs.length) xs.reverse where
  stop := fun i H' s hi => by
    show vs.length ≤ i
    rw [r.length]; simpa using hi
  go := fun i d H' s hd => by
    obtain ⟨h1, h2⟩ := rev_get hd
    obtain ⟨v, e1, _⟩ := r.get h2
    exact ⟨by rw [r.length]; exact h1, vs, v, seq_later p e s, by rw [r.length]; exact e1⟩
  yld := fun i d H' x H'' s hd ⟨e1, h⟩ => by
    subst e1
    obtain ⟨h1, h2⟩ := rev_get hd
    obtain ⟨v, e2, rv⟩ := r.get h2
    have := h vs (seq_later p e s)
    rw [r.length, e2] at this
    cases this
    exact ⟨Same.refl _, fun O' oo _ => rep_later ol po s rv O' oo⟩
theorem good_revT (ol : ∀ a, O a → ∃ xs, H a = some (.lst xs)) (po : ∀ a, Ox a ∨ P a → O a) (e : SqT K H a vs) (r : Reps K O H vs xs) : Good K Ox (notOwn P H) (RT.ItvT K a vs.length) xs.reverse where
  stop := fun i H' s hi => by
    show vs.length ≤ i
    rw [r.length]; simpa using hi
  go := fun i d H' s hd => by
    obtain ⟨h1, h2⟩ := rev_get hd
    obtain ⟨v, e1, _⟩ := r.get h2
    exact ⟨by rw [r.length]; exact h1, vs, v, tup_later (fun a z => ol a (po a (.inr z))) e s, by rw [r.length]; exact e1⟩
  yld := fun i d H' x H'' s hd ⟨e1, h⟩ => by
    subst e1
    obtain ⟨h1, h2⟩ := rev_get hd
    obtain ⟨v, e2, rv⟩ := r.get h2
    have := h vs (tup_later (fun a z => ol a (po a (.inr z))) e s)
    rw [r.length, e2] at this
    cases this
    exact ⟨Same.refl _, fun O' oo _ => rep_later ol po s rv O' oo⟩
end

def tP (K : PySem.W.Frag) (b : Bool) (f : En → Option RV) (lk : List Nat) : TE := fun σ H Q => ∃ Ox Hb env r, ER K Ox Hb H σ env ∧ f env = some r ∧ ∀ v H', Same H H' → RP K (Of Ox σ env lk) (Pb b σ env lk) H' v r.d → Q v H'
def tAP (K : PySem.W.Frag) (b : Bool) (f : En → Option (List D)) (lk : List Nat) : TA := fun σ H Q => ∃ Ox Hb env ds, ER K Ox Hb H σ env ∧ f env = some ds ∧ ∀ vs H', Same H H' → RPs K (Of Ox σ env lk) (Pb b σ env lk) H' vs ds → Q vs H'
def tI (K : PySem.W.Frag) (b : Bool) (f : En → Option (List D)) (lk : List Nat) : TI := fun σ H R => ∃ Ox Hb env its, ER K Ox Hb H σ env ∧ f env = some its ∧ ∀ J H', Same H H' → Good K (Og b Ox σ env lk) (notOwn (Pb b σ env lk) H') J its → R J H'
section
variable {X : Cx} {tg e e2 : Expr} {es : List Expr} {pos : Pos} {b : Bool} {lk : List Nat}
theorem pb_of {Ox : Addr → Prop} {σ : Sg} {env : En} : ∀ a, Pb b σ env lk a → Of Ox σ env lk a := fun a h => .inr h.2
theorem po_of {Ox : Addr → Prop} {σ : Sg} {env : En} : ∀ a, Og b Ox σ env lk a ∨ Pb b σ env lk a → Of Ox σ env lk a := fun a h => h.elim (fun z => z.elim .inl fun w => .inr w.2) fun z => .inr z.2
theorem p_loop {fa : En → Option RV} (h : PE X e (tE X.K fa lk)) : PE X e (tP X.K true fa lk) := pe_mono h fun σ H Q ⟨Ox, Hb, env, r, R, e, k⟩ => ⟨Ox, Hb, env, r, R, e, fun v H' s rr => k v H' s ((rr.rep R.lst (R.ext' s).lst).rp pb_of)⟩
theorem rp_false {K : PySem.W.Frag} {O : Addr → Prop} {H : Hp} {v : V} {d : D} {σ : Sg} {env : En} (h : RC K O H v d) : RP K O (Pb false σ env lk) H v d := by
  cases d with
  | list ds => obtain ⟨a, vs, e, e2, r⟩ := h; exact ⟨a, vs, e, (fun z => Bool.noConfusion z.1), e2, r⟩
  | _ => exact h
theorem p_comp {fa : En → Option RV} (h : PE X e (tC X.K fa lk)) : PE X e (tP X.K false fa lk) := pe_mono h fun σ H Q ⟨Ox, Hb, env, r, R, e, k⟩ => ⟨Ox, Hb, env, r, R, e, fun v H' s rr => k v H' s (rp_false rr)⟩
theorem ap_loop {fa : En → Option (List D)} (h : PA X es (tA X.K fa lk)) : PA X es (tAP X.K true fa lk) := pa_mono h fun σ H Q ⟨Ox, Hb, env, r, R, e, k⟩ => ⟨Ox, Hb, env, r, R, e, fun vs H' s rr => k vs H' s (by
    clear k e
    induction rr using Reps.rec (motive_1 := fun _ _ _ => True) <;> first | trivial | exact .nil | skip
    rename_i h1 _ _ ih
    exact .cons (Rep.rp h1 pb_of) ih)⟩
theorem ap_comp {fa : En → Option (List D)} (h : PA X es (tAC X.K fa lk)) : PA X es (tAP X.K false fa lk) := pa_mono h fun σ H Q ⟨Ox, Hb, env, r, R, e, k⟩ => ⟨Ox, Hb, env, r, R, e, fun vs H' s rr => k vs H' s (by
    clear k e
    induction rr with
    | nil => exact .nil
    | cons h1 _ ih => exact .cons (rp_false h1) ih)⟩
theorem i_val {fa : En → Option RV} (h : PE X e (tP X.K b fa lk)) : PI X tg e (tI X.K b (fun env => (fa env).bind fun x => srcs .val [x.d]) lk) := by
  refine ⟨fun pins s σ H R I ⟨Ox, Hb, env, its, ER, e1, k⟩ => ?_⟩
  obtain ⟨x, e2, e3⟩ := Option.bind_eq_some_iff.mp e1
  have e3 : items x.d = some its := e3
  cases hx : x.d with
  | list ds =>
    refine (pi_list h).run pins s σ H R I ⟨Ox, Hb, env, x, ER, e2, fun v H1 s1 c1 => ?_⟩
    obtain ⟨a, vs, rfl, q, r⟩ := rp_items c1 e3
    rcases q with ⟨p, q, _⟩ | ⟨q, z⟩
    · exact ⟨a, rfl, ⟨vs, .inl (.inl q)⟩, k _ H1 s1 (good_list (ER.ext' s1).lst po_of p q r)⟩
    · rw [hx] at z; cases z
  | tuple ds =>
    refine (pi_tup h).run pins s σ H R I ⟨Ox, Hb, env, x, ER, e2, fun v H1 s1 c1 => ?_⟩
    obtain ⟨a, vs, rfl, q, r⟩ := rp_items c1 e3
    rcases q with ⟨p, q, z⟩ | ⟨q, _⟩
    · rw [hx] at z; cases z
    · exact ⟨a, rfl, ⟨vs, q⟩, k _ H1 s1 (good_tup (ER.ext' s1).lst po_of q r)⟩
  | _ => rw [hx] at e3; cases e3
theorem i_rng1 {fa : En → Option (List D)} {p : Pos} (hg : Gl X "range") (hm : X.mg "range" = none) (h : PA X [e] (tAP X.K b fa lk)) (hs : isStar e = false) (hl : ∀ env ds, fa env = some ds → ds.length = 1) : PI X tg (.Call (.Name "range" p) [e] [] pos) (tI X.K b (fun env => (fa env).bind (srcs .rng)) lk) := by
  refine ⟨fun pins s σ H R I ⟨Ox, Hb, env, its, ER, e1, k⟩ => ?_⟩
  obtain ⟨ds, e2, e3⟩ := Option.bind_eq_some_iff.mp e1
  refine (pi_range1 hg hm h (star_cons hs)).run pins s σ H R I ⟨Ox, Hb, env, ds, ER, e2, fun vs H1 s1 c1 => ?_⟩
  replace e3 : rngS ds = some its := e3
  have hl := hl _ _ e2
  unfold rngS at e3
  split at e3
  · rename_i j
    split at e3
    · rename_i hj
      cases e3
      obtain ⟨v, rfl, rp⟩ := rps1 c1
      cases (show Rep _ _ _ v (.int j) from rp)
      exact ⟨j, rfl, by omega, by omega, k _ H1 s1 (good_rng 0 j.toNat)⟩
    · cases e3
  · simp at hl
  · simp at hl
  · cases e3
theorem i_rng2 {fa : En → Option (List D)} {p : Pos} (hg : Gl X "range") (hm : X.mg "range" = none) (h : PA X [e, e2] (tAP X.K b fa lk)) (hs : isStar e = false) (hs2 : isStar e2 = false) (hl : ∀ env ds, fa env = some ds → ds.length = 2) : PI X tg (.Call (.Name "range" p) [e, e2] [] pos) (tI X.K b (fun env => (fa env).bind (srcs .rng)) lk) := by
  refine ⟨fun pins s σ H R I ⟨Ox, Hb, env, its, ER, e1, k⟩ => ?_⟩
  obtain ⟨ds, e2, e3⟩ := Option.bind_eq_some_iff.mp e1
  refine (pi_range2 hg hm h (by rw [star_cons hs, star_cons hs2]; rfl) (by rw [star_cons hs2]; rfl)).run pins s σ H R I ⟨Ox, Hb, env, ds, ER, e2, fun vs H1 s1 c1 => ?_⟩
  replace e3 : rngS ds = some its := e3
  have hl := hl _ _ e2
  unfold rngS at e3
  split at e3
  · simp at hl
  · rename_i i j
    split at e3
    · rename_i hj
      cases e3
      obtain ⟨v, u, rfl, rp, rp2⟩ := rps2 c1
      cases (show Rep _ _ _ v (.int i) from rp)
      cases (show Rep _ _ _ u (.int j) from rp2)
      exact ⟨i, j, rfl, ⟨by omega, by omega, by omega, by omega⟩, k _ H1 s1 (good_rng i (j - i).toNat)⟩
    · cases e3
  · simp at hl
  · cases e3
theorem rgc_length (lo c : Int) (n : Nat) : (rgc lo c n).length = n := by unfold rgc; simp
theorem rgc_get {lo c : Int} {n i : Nat} {d : D} (h : (rgc lo c n)[i]? = some d) : i < n ∧ d = .int (lo + (i : Int) * c) := by
  unfold rgc at h
  rw [List.getElem?_map] at h
  obtain ⟨k, e1, e2⟩ := Option.map_eq_some_iff.mp h
  obtain ⟨h1, h2⟩ := List.getElem?_eq_some_iff.mp e1
  rw [List.length_range] at h1
  rw [List.getElem_range] at h2
  subst h2
  exact ⟨h1, e2.symm⟩
theorem good_rgc {K : PySem.W.Frag} {Ox : Addr → Prop} (lo c : Int) (n : Nat) {Hf : Hp} : Good K Ox Hf (Itc lo c n) (rgc lo c n) where
  stop := fun i H' s hi => by rw [rgc_length] at hi; exact hi
  go := fun i d H' s hd => (rgc_get hd).1
  yld := fun i d H' x H'' s hd ⟨e1, e2⟩ => by
    subst e1 e2
    rw [(rgc_get hd).2]
    exact ⟨Same.refl _, fun O' oo _ => .int _⟩
theorem rgC_pos {i j k : Int} (hi : i.natAbs < 1099511627776) (hj : j.natAbs < 1099511627776) (k0 : 0 < k) (k1 : k < 1073741824) : RgC i j k (rgn i j k) := by
  have hs : Builtin.Range.rangeSize i j k = if i < j then (j - i - 1) / k + 1 else 0 := by
    unfold Builtin.Range.rangeSize
    rw [if_pos k0]
  have hb : i < j → 0 ≤ (j - i - 1) / k ∧ (j - i - 1) / k ≤ j - i - 1 := fun h => ⟨Int.ediv_nonneg (by omega) (by omega), Int.ediv_le_self _ (by omega)⟩
  refine ⟨by omega, by omega, ?_, ?_⟩
  · unfold Builtin.Range.small
    rw [hs]
    generalize (j - i - 1) / k = q at *
    simp only [Builtin.Range.rangeFitsLong, Bool.and_eq_true, Bool.or_eq_true, decide_eq_true_eq, beq_iff_eq, show k > 0 from k0, if_true]
    by_cases h : i < j
    · have := hb h
      simp only [if_pos h]
      omega
    · simp only [if_neg h]
      omega
  · rw [hs]
    unfold rgn
    generalize (j - i - 1) / k = q at *
    by_cases h : i < j
    · have := hb h
      simp only [if_pos h]
      omega
    · simp only [if_neg h]
      omega
theorem i_rng3 {e3' : Expr} {fa : En → Option (List D)} {p : Pos} (hg : Gl X "range") (hm : X.mg "range" = none) (h : PA X [e, e2, e3'] (tAP X.K b fa lk)) (hs : isStar e = false) (hs2 : isStar e2 = false) (hs3 : isStar e3' = false) (hl : ∀ env ds, fa env = some ds → ds.length = 3) : PI X tg (.Call (.Name "range" p) [e, e2, e3'] [] pos) (tI X.K b (fun env => (fa env).bind (srcs .rng)) lk) := by
  refine ⟨fun pins s σ H R I ⟨Ox, Hb, env, its, ER, e1, k⟩ => ?_⟩
  obtain ⟨ds, e2, e3⟩ := Option.bind_eq_some_iff.mp e1
  refine (pi_range3 hg hm h (by rw [star_cons hs]) (star_any (by rw [List.all_cons, List.all_cons, hs2, hs3]; rfl))).run pins s σ H R I ⟨Ox, Hb, env, ds, ER, e2, fun vs H1 s1 c1 => ?_⟩
  replace e3 : rngS ds = some its := e3
  have hl := hl _ _ e2
  unfold rngS at e3
  split at e3
  · simp at hl
  · simp at hl
  · rename_i i j c
    split at e3
    · rename_i hj
      cases e3
      obtain ⟨v, u, w, rfl, rp, rp2, rp3⟩ := rps3 c1
      cases (show Rep _ _ _ v (.int i) from rp)
      cases (show Rep _ _ _ u (.int j) from rp2)
      cases (show Rep _ _ _ w (.int c) from rp3)
      exact ⟨i, j, c, _, rfl, rgC_pos hj.1.1 hj.1.2 hj.2.1 hj.2.2, k _ H1 s1 (good_rgc i c _)⟩
    · cases e3
  · cases e3
theorem lrg_inv3 {ds : List D} {xs : List D} (hl : ds.length = 3) (e : lrgF ds = some xs) : ∃ i j k, ds = [.int i, .int j, .int k] ∧ (i.natAbs < 1099511627776 ∧ j.natAbs < 1099511627776) ∧ 0 < k ∧ k < 1073741824 ∧ rgn i j k ≤ LIM ∧ xs = rgc i k (rgn i j k) := by
  unfold lrgF at e
  split at e
  · simp at hl
  · simp at hl
  · split at e
    · rename_i h; cases e; exact ⟨_, _, _, rfl, h.1, h.2.1, h.2.2.1, h.2.2.2, rfl⟩
    · cases e
  · cases e
theorem vals_rgc {a c : Int} {n : Nat} {acc : Array Value} (h : ItemsOf (fun i v => ∃ t, v = .int (a + i * c) t) acc n) : Vals ((List.range n).map fun (k : Nat) => V.int (a + (k : Int) * c)) acc.toList := by
  have e : acc.toList.length = n := by rw [Array.length_toList]; exact h.1
  rw [← e]
  refine vals_of_get acc.toList _ fun j u hj => ?_
  obtain ⟨t, rfl⟩ := h.2 j u (by rw [← hj, Array.getElem?_toList])
  exact ⟨t, rfl⟩
theorem reps_rgc {K : PySem.W.Frag} {O : Addr → Prop} {H : Hp} (lo c : Int) : ∀ ks : List Nat, Reps K O H (ks.map fun (k : Nat) => V.int (lo + (k : Int) * c)) (ks.map fun (k : Nat) => PyData.int (lo + (k : Int) * c))
  | [] => .nil
  | k :: r => .cons (.int _) (reps_rgc lo c r)
theorem e_lrg3 {a e3 : Expr} {p p2 q : Pos} {fa : En → Option (List D)} (hc : X.calm = true) (hg : Gl X "list") (hm : X.mg "list" = none) (hg2 : Gl X "range") (hm2 : X.mg "range" = none) (h : PA X [a, e, e3] (tAC X.K fa lk)) (hs : isStar a = false) (hs2 : isStar e = false) (hs3 : isStar e3 = false) (hl : ∀ env ds, fa env = some ds → ds.length = 3) :
    PE X (.Call (.Name "list" p) [.Call (.Name "range" p2) [a, e, e3] [] q] [] pos) (tE X.K (fun env => (fa env).bind fun ds => (lrgF ds).map .l) lk) := by
  refine ⟨fun pins s σ H Q I ⟨Ox, Hb, env, r, R, e0, k⟩ => ?_⟩
  obtain ⟨ds, e1, e2⟩ := Option.bind_eq_some_iff.mp e0
  obtain ⟨xs, e4, rfl⟩ := Option.map_eq_some_iff.mp e2
  obtain ⟨i, j, c, rfl, hb, k0, k1, hn, rfl⟩ := lrg_inv3 (hl _ _ e1) e4
  obtain ⟨c0, c1, c2, c3⟩ := rgC_pos hb.1 hb.2 k0 k1
  have hrun : wpAny (model X.prog X.w) X.A (eval (.Call (.Name "range" p2) [a, e, e3] [] q) X.env) (fun x s' => ∃ rr t u v H', x = .ref rr ∧ IsRange s'.heap rr i j c t u v ∧ Inv X pins σ H' s' ∧ Same H H') X.xe s := by
    refine Call_ (ld_blt I hg2 hm2 boot_range (PyProof.Rows.callWith_type1 (thn (h.run q pins s σ H _ I ⟨Ox, Hb, env, _, R, e1, fun vs H1 s1 rc => (show vs = [V.int i, .int j, .int c] ∧ Same H H1 from ?_)⟩) fun us s1 ⟨vs, H1, I1, r1, ex, hsm⟩ => ?_) (by rw [star_cons hs]) (star_any (by rw [List.all_cons, List.all_cons, hs2, hs3]; rfl))))
    · cases rc with
      | cons q1 rc =>
        cases rc with
        | cons q2 rc =>
          cases rc with
          | cons q3 rc =>
            cases rc
            rw [rc_int q1, rc_int q2, rc_int q3]
            exact ⟨rfl, s1⟩
    · subst ex
      cases r1 with
      | cons r rr =>
        cases rr with
        | cons r' rr =>
          cases rr with
          | cons r'' rr =>
            cases rr
            obtain ⟨t, rfl⟩ := r
            obtain ⟨t', rfl⟩ := r'
            obtain ⟨t'', rfl⟩ := r''
            refine call_range_3 c0 ?_ (.inl (PyProof.noPylong_small c1))
            exact ⟨_, t, t', t'', H1, rfl, IsRange.new .., I1.kept (t' := s1.toks) fun b o e => Heap.get?_push_of_some _ e, hsm⟩
  refine Call_ (ld_blt I hg hm boot_list (PyProof.Rows.callWith_type1 (args_cons (thn hrun fun x s1 ⟨rr, t, u, v, H1, ex, hr, I1, hsm⟩ => args_nil ?_) (by rfl)) (by rfl)))
  subst ex
  have hn' : rgn i j c ≤ 2 ^ 24 := by unfold LIM at hn; omega
  refine call_list_range (n := rgn i j c) (I1.ok.hd hc) hr c2 c3 hn' fun h' tk acc c' hk e' hi => ?_
  have hfr := I1.hok.fresh (Nat.le_refl s1.heap.objs.size)
  refine ⟨.ref s1.heap.objs.size, upd H1 s1.heap.objs.size (.lst ((List.range (rgn i j c)).map fun (k : Nat) => V.int (i + (k : Int) * c))), I1.laid hk (Nat.le_refl _) (show ObjOk X.prog X.w _ _ _ (.lst _) from ⟨?_, acc.toList, c', vals_rgc hi, ?_⟩), rfl, k _ _ (hsm.trans (same_new hfr)) (RR.back (rr_l hfr (reps_rgc i c _) (R.ext' hsm).lst) hsm)⟩
  · rw [List.length_map, List.length_range, sizeLine_eq]; omega
  · rw [Array.toArray_toList]; exact e'
set_option maxHeartbeats 1000000 in
theorem en_meets {v : Value} {o : Obj} {Hh : Heap → Prop} (B : Begins v o Hh) :
    Meets (Builtin.«enumerate.__new__» ⟨[.type "enumerate", v], []⟩) (fun _ R s => Hh s.heap ∧
      R (.ok (.ret (.ref (s.heap.push o).objs.size))) { s with heap := (s.heap.push o).push { cls := .type "enumerate", data := .fields #[.none, .bool false, .ref s.heap.objs.size, rawInt 0, .none, .none] } }) :=
  .of_wp fun prog w A R s h => by
    obtain ⟨hp, g, d, tk, os⟩ := s
    obtain ⟨h1, h⟩ := h
    have hsub := sub_enumerate
    have q1 : ∀ {A' : Around} {E : Value → Shared → Prop} {Q : Value → Shared → Prop}, Q (.ref hp.objs.size) ⟨hp.push o, g, d, tk, os⟩ → wpAny (model prog w) A' (pyIter v) Q E ⟨hp, g, d, tk, os⟩ :=
      fun q => B.iter prog w _ _ ⟨hp, g, d, tk, os⟩ _ h1 q
    wp_walk using q1
    refine wpAny_stack_any fun st => wpAny_pure ?_
    split
    · rename_i c _ _ _ _ _
      cases (c == Value.type "enumerate") <;> (wp_walk using q1; exact ⟨_, rfl, h⟩)
    · wp_walk using q1
      exact ⟨_, rfl, h⟩
theorem en_call {prog : Program} {w : World} {A : Around} {E : Value → Shared → Prop} {s : Shared} {v : Value} {o : Obj} {Hh : Heap → Prop} {Q : Value → Shared → Prop} (B : Begins v o Hh) (h1 : Hh s.heap)
    (h : ∀ h', IsEnum h' (s.heap.objs.size + 1) s.heap.objs.size 0 .none → h'.get? s.heap.objs.size = some o → (∀ b o, s.heap.get? b = some o → h'.get? b = some o) → Q (.ref (s.heap.objs.size + 1)) { s with heap := h' }) :
    wpAny (model prog w) A (call (.type "enumerate") [v]) Q E s := by
  refine callType_new F.called_enumerate (by decide) (F.typeCall_enumerate_1 _) (F.newCall_enumerate_1 _) (fun obj => F.args_object_init_2 obj _) F.entry_enumerate_new (en_meets B) ⟨h1, ?_⟩
  have hz : (s.heap.push o).objs.size = s.heap.objs.size + 1 := Heap.size_push ..
  have he := Heap.get?_push_size (s.heap.push o) (o := { cls := .type "enumerate", data := .fields #[.none, .bool false, .ref s.heap.objs.size, rawInt 0, .none, .none] }) rfl
  rw [hz] at he
  show _ ∧ _
  rw [hz]
  exact ⟨⟨_, he, rfl⟩, h _ he (Heap.get?_push_of_some _ (Heap.get?_push_size _ B.free)) fun b o x => Heap.get?_push_of_some _ (Heap.get?_push_of_some _ x)⟩
theorem en_end {prog : Program} {w : World} {A : Around} {E : Value → Shared → Prop} {s : Shared} {e it t : Addr} {i : Nat} {items : Array Value} {old : Value} {Q : Option Value → Shared → Prop} (hh : A.handled = none)
    (he : IsEnum s.heap e it i old) (hit : s.heap.IsTupleIter it t i) (ht : s.heap.IsTuple t items) (hx : items[i]? = none) (hQ : ∀ h', Heap.ExtBut it s.heap h' → Q none { s with heap := h' }) : wpAny (model prog w) A (pyNext (.ref e)) Q E s := by
  have hT : s.TypeIs (.ref e) "enumerate" := ⟨_, he, rfl⟩
  have stp : wpAny (model prog w) A.in1 (Builtin.«enumerate.__next__» ⟨[.ref e], []⟩) (fun _ _ => False) (fun v s' => ∃ h' x, v = .ref x ∧ s' = { s with heap := h' } ∧ Heap.ExtBut it s.heap h' ∧ ∃ o, h'.get? x = some o ∧ o.cls = .type "StopIteration") s := by
    show wpAny _ _ (field (.ref e) 2 >>= _) _ _ _
    exact wpAny_bind (wpAny_field he rfl (x := .ref it) rfl (wpAny_bind (wpAny_nextOf_tuple_end hh hit ht hx fun h' x a b => ⟨h', x, rfl, rfl, a, b⟩)))
  unfold pyNext
  refine wpAny_bind (wpAny_attempt (wpAny_callSpecial?_slot (name := Str.ofString "__next__") hT F.slot_enumerate_next (wpAny_call_entry F.slot_enumerate_next hT F.entry_enumerate_next ?_ (F.args_enumerate_next_1 _))))
  refine wpAny_mono stp (fun _ _ z => z.elim) fun v s' ⟨h', x, e1, e2, a, o, ho, hc⟩ => ?_
  subst e1 e2
  refine wpAny_bind (wpAny_isInstance (T := "StopIteration") (b := true) ⟨o, ho, hc⟩ isSubtype_stop ?_)
  exact wpAny_pure (hQ _ a)
/-- the tuple at a, each item with its number in a new pair -/
def IteT (K : PySem.W.Frag) (a : Addr) : It where
  go := fun i H => ∃ (xs : List V) (x : V), SqT K H a xs ∧ xs[i]? = some x
  yld := fun i H v H' => ∃ T x, v = .ref T ∧ H T = none ∧ H' = upd H T (.tup [.int (i : Nat), x]) ∧ ∀ xs, SqT K H a xs → xs[i]? = some x
  stop := fun i H => ∃ xs : List V, SqT K H a xs ∧ xs.length ≤ i
theorem turn_enumT {P : Program} {w : World} {K : PySem.W.Frag} {elts : List Expr} {kk : Nat} {tpos : Pos} (a e it : Addr) :
    Turn P w K (.Tuple elts kk tpos) (IteT K a) [e, it] e (fun i h => (∃ old, IsEnum h e it ((i : Nat) : Int) old) ∧ h.IsTupleIter it a i ∧ e ≠ it ∧ a ≠ it ∧ e ≠ a) where
  mem := by simp
  obj := fun i h ⟨⟨old, he⟩, ⟨o, ho, _, hd⟩, _⟩ b hb => by
    rcases (show b = e ∨ b = it by simpa using hb) with rfl | rfl
    · exact ⟨_, he, fun v q => nomatch q⟩
    · exact ⟨o, ho, fun v q => by rw [hd] at q; cases q⟩
  keep := fun i h h' ⟨⟨old, he⟩, hi, hne⟩ k => ⟨⟨old, k e (by simp) _ he⟩, hi.at fun o q => k it (by simp) o q, hne⟩
  item := by
    intro X hP hw hK hc i pins s σ H E I hf st hg
    subst hP hw hK
    obtain ⟨⟨old, he⟩, hit, hne, hai, hea⟩ := st
    obtain ⟨xs, x, hq, hx⟩ := hg
    obtain ⟨its, rv, p, hz⟩ := I.tuple hq
    obtain ⟨u, hu, ru⟩ := rv.get hx
    have hel : e < s.heap.objs.size := Heap.lt_size he
    have hil : it < s.heap.objs.size := by obtain ⟨_, q, _⟩ := hit; exact Heap.lt_size q
    have D : Draws X.prog X.w X.A.in1 it [it, a] its.toArray.size _ _ := Draws.tuple (A := X.A.in1) (show X.A.in1.handled = none from I.ok.hd hc) it a hai its.toArray
    have hlt : i < its.toArray.size := by
      have := (List.getElem?_eq_some_iff.mp hu).1
      simpa using this
    refine wpAny_pyNext_enum_itemD D he ⟨hit, p⟩ hlt hne (by simp [hne, hea]) fun y h' tk hy ho hst hT hsz hk => ?_
    have hyu : y = u := by
      have h1 : its[i]? = some y := by simpa using hy
      rw [hu] at h1
      exact (Option.some.inj h1).symm
    subst hyu
    refine ⟨_, rfl, wpAny_letOwnedTupleGo_enum (s := { s with heap := h', toks := tk + 1 }) ho fun h'' he' sb => ?_⟩
    have hT2 := (sb.2 _ (Nat.ne_of_gt hel)).trans hT
    have I1 : Inv X pins σ (upd H s.heap.objs.size (.tup [.int (i : Nat), x])) { s with heap := h'', toks := tk + 1 } :=
      I.turnedNew (ch := [e, it]) (fun b ob hb q => (sb.2 b (fun z => hb (by simp [z]))).trans (hk b ob (fun z => hb (by simp [z])) (fun z => hb (by simp [z])) q)) hf (Nat.le_refl _)
        ⟨by show 2 ≤ sizeLine; decide, [.int i tk, y], .cons ⟨_, rfl⟩ (.cons ru .nil), ⟨_, hT2, rfl, _, rfl⟩⟩
    refine ⟨.ref s.heap.objs.size, _, I1, rfl, ⟨_, x, rfl, I.hok.fresh (Nat.le_refl _), rfl, fun ys hy => by rw [I.tuple_inj hy hq]; exact hx⟩, ⟨⟨y, ?_⟩, hst.1.at fun o q => (sb.2 it (Ne.symm hne)).trans q, hne, hai, hea⟩, fun b hb => ?_⟩
    · rw [show ((i + 1 : Nat) : Int) = (i : Int) + 1 by omega]; exact he'
    · have hb' : b < s.heap.objs.size := by
        rcases (show b = e ∨ b = it by simpa using hb) with rfl | rfl
        · exact hel
        · exact hil
      rw [upd_ne (Nat.ne_of_lt hb')]
      exact (hf b hb).1
  done := by
    intro X hP hw hK hc i pins s σ H E I hf st hg
    subst hP hw hK
    obtain ⟨⟨old, he⟩, hit, hne, hai, hea⟩ := st
    obtain ⟨xs, hq, hx⟩ := hg
    obtain ⟨its, rv, p, hz⟩ := I.tuple hq
    obtain ⟨f0, f1, f2, f3, f4, f5⟩ := hf it (by simp)
    have hl := rv.length
    have hnone : its.toArray[i]? = none := by simp; omega
    refine en_end (I.ok.hd hc) he hit p hnone fun h' eb => ⟨rfl, I.turned (t' := s.toks) (fun b o hb q => eb b o hb q) f0 f1 f3 f4 f5⟩
  self := fun A i s Q E ⟨⟨_, he⟩, _⟩ h => wpAny_pyIter_enum he h
def iEnumT (K : PySem.W.Frag) (ta : TA) : TI := fun σ H R => ta σ H fun vs H1 => ∃ a xs, vs = [.ref a] ∧ SqT K H1 a xs ∧ R (IteT K a) H1
theorem pi_enumT {X : Cx} {e : Expr} {ta : TA} {p pos tpos : Pos} {elts : List Expr} {kk : Nat} (hg : Gl X "enumerate") (hm : X.mg "enumerate" = none) (ha : PA X [e] ta) (hs : starEach [e] X.env = [(false, eval e X.env)] := by rfl) :
    PI X (.Tuple elts kk tpos) (.Call (.Name "enumerate" p) [e] [] pos) (iEnumT X.K ta) := by
  refine ⟨fun pins s σ H R I h => ?_⟩
  refine Call_ (ld_blt I hg hm boot_enumerate (PyProof.Rows.callWith_type1 (thn (ha.run pos pins s σ H _ I h) fun us s1 ⟨vs, H1, I1, r1, a, xs, ex, hq, q⟩ => ?_) hs rfl))
  subst ex
  cases r1 with
  | cons r rr =>
    cases rr
    cases r
    obtain ⟨its, rv, p', hz⟩ := I1.tuple hq
    obtain ⟨ob, hob, _⟩ := id p'
    have hal : a < s1.heap.objs.size := Heap.lt_size hob
    refine en_call (begins_tuple a its.toArray) p' fun h' he hit hk => wpAny_pyIter_enum he ?_
    have I2 : Inv X pins σ H1 { s1 with heap := h' } := I1.kept (t' := s1.toks) hk
    refine ⟨s1.heap.objs.size + 1, [s1.heap.objs.size + 1, s1.heap.objs.size], _, _, H1, rfl, I2, turn_enumT a (s1.heap.objs.size + 1) s1.heap.objs.size, ⟨⟨.none, he⟩, ⟨_, hit, rfl, rfl⟩, Nat.succ_ne_self _, Nat.ne_of_lt hal, fun z => absurd hal (by rw [← z]; exact Nat.not_lt.mpr (Nat.le_succ _))⟩, fun b hb => ?_, q⟩
    have hle : s1.heap.objs.size ≤ b := by
      rcases (show b = s1.heap.objs.size + 1 ∨ b = s1.heap.objs.size by simpa using hb) with rfl | rfl <;> omega
    exact I1.fpOk hle (I1.hok.fresh hle)
section
variable {X : Cx} {K : PySem.W.Frag} {O Ox P : Addr → Prop} {H : Hp} {a b : Addr} {vs us : List V} {xs ys : List D}
theorem good_enumT (ol : ∀ a, O a → ∃ xs, H a = some (.lst xs)) (po : ∀ a, Ox a ∨ P a → O a) (e : SqT K H a vs) (r : Reps K O H vs xs) :
    Good K Ox (notOwn P H) (IteT K a) (xs.zipIdx.map fun p => .tuple [.int (p.2 : Nat), p.1]) where
  stop := fun i H' s hi => ⟨vs, tup_later (fun a z => ol a (po a (.inr z))) e s, by rw [r.length]; simpa using hi⟩
  go := fun i d H' s hd => by
    rw [List.getElem?_map, List.getElem?_zipIdx] at hd
    obtain ⟨q, e1, e2⟩ := Option.map_eq_some_iff.mp hd
    obtain ⟨y, e3, e4⟩ := Option.map_eq_some_iff.mp e1
    obtain ⟨v, e5, _⟩ := r.get e3
    exact ⟨vs, v, tup_later (fun a z => ol a (po a (.inr z))) e s, e5⟩
  yld := fun i d H' x H'' s hd ⟨T, w, e1, n, e2, h⟩ => by
    subst e1 e2
    rw [List.getElem?_map, List.getElem?_zipIdx] at hd
    obtain ⟨q, e1, e2⟩ := Option.map_eq_some_iff.mp hd
    obtain ⟨y, e3, e4⟩ := Option.map_eq_some_iff.mp e1
    subst e4 e2
    obtain ⟨v, e5, rv⟩ := r.get e3
    have := h vs (tup_later (fun a z => ol a (po a (.inr z))) e s)
    rw [e5] at this
    cases this
    refine ⟨same_new n, fun O' oo oh => ?_⟩
    have e0 : ((0 + i : Nat) : Int) = (i : Int) := by omega
    show Rep K O' (upd H' T (.tup [.int (i : Nat), w])) (.ref T) (.tuple [.int ((0 + i : Nat) : Int), y])
    rw [e0]
    exact .tup (SqT.of upd_same) (.cons (.int _) (.cons (rep_ext (same_new n) oh (rep_later ol po s rv O' oo)) .nil))
end
theorem i_enum {fa : En → Option (List D)} {p tpos : Pos} {elts : List Expr} {kk : Nat} (hg : Gl X "enumerate") (hm : X.mg "enumerate" = none) (h : PA X [e] (tAP X.K b fa lk)) (hs : isStar e = false) : PI X (.Tuple elts kk tpos) (.Call (.Name "enumerate" p) [e] [] pos) (tI X.K b (fun env => (fa env).bind (srcs .enum)) lk) := by
  refine ⟨fun pins s σ H R I ⟨Ox, Hb, env, its, ER, e1, k⟩ => ?_⟩
  obtain ⟨ds, e2, e3⟩ := Option.bind_eq_some_iff.mp e1
  replace e3 : enumS ds = some its := e3
  unfold enumS at e3
  split at e3
  · rename_i ys
    cases e3
    refine (pi_enum hg hm h (star_cons hs)).run pins s σ H R I ⟨Ox, Hb, env, _, ER, e2, fun vs H1 s1 c1 => ?_⟩
    obtain ⟨v, rfl, rp⟩ := rps1 c1
    obtain ⟨a, vs, rfl, q, r⟩ := rp_items rp (show items (.list ys) = some ys from rfl)
    rcases q with ⟨p, q, _⟩ | ⟨q, z⟩
    · exact ⟨a, vs, rfl, .inl (.inl q), k _ H1 s1 (good_enum (ER.ext' s1).lst po_of p q r)⟩
    · cases z
  · rename_i ys
    cases e3
    refine (pi_enumT hg hm h (star_cons hs)).run pins s σ H R I ⟨Ox, Hb, env, _, ER, e2, fun vs H1 s1 c1 => ?_⟩
    obtain ⟨v, rfl, rp⟩ := rps1 c1
    cases (show Rep _ _ _ v (.tuple ys) from rp) with
    | tup q r => exact ⟨_, _, rfl, q, k _ H1 s1 (good_enumT (ER.ext' s1).lst po_of q r)⟩
  · cases e3
def iZipB (K : PySem.W.Frag) (ta : TA) : TI := fun σ H R => ta σ H fun vs H1 => ∃ a b xs ys, vs = [.ref a, .ref b] ∧ ((SqL K H1 a xs ∧ SqL K H1 b ys ∧ R (Itz K a b) H1) ∨ (SqT K H1 a xs ∧ SqT K H1 b ys ∧ R (RZ.ItzT K a b) H1) ∨ (SqT K H1 a xs ∧ SqL K H1 b ys ∧ R (ItzM K a b) H1))
theorem new5 {n c : Nat} (h : c ∈ [n + 4, n + 2, n + 3, n, n + 1]) : n ≤ c := by
  simp only [List.mem_cons, List.not_mem_nil, or_false] at h
  omega
theorem pi_zipB {X : Cx} {e e2 : Expr} {ta : TA} {p pos tpos : Pos} {elts : List Expr} {kk : Nat} (hg : Gl X "zip") (hm : X.mg "zip" = none) (ha : PA X [e, e2] ta)
    (hs : starEach [e, e2] X.env = (false, eval e X.env) :: starEach [e2] X.env := by rfl) (hpl : (backTo pos (starEach [e2] X.env)).any (·.1) = false := by rfl) :
    PI X (.Tuple elts kk tpos) (.Call (.Name "zip" p) [e, e2] [] pos) (iZipB X.K ta) := .mk fun pins st σ Hp0 R inv hyp => by
  refine Call_ (ld_blt inv hg hm PyProof.Rows.boot_zip ?_)
  refine PyProof.Rows.callWith_type1 (thn (ha.run pos pins st σ Hp0 _ inv hyp) ?_) hs hpl
  rintro us t ⟨vs, Hx, J, rel, a, b, xs, ys, rfl, how⟩
  rcases rel with _ | ⟨⟨⟩, _ | ⟨⟨⟩, _ | _⟩⟩
  have apart5 : ∀ c ∈ [t.heap.objs.size + 4, t.heap.objs.size + 2, t.heap.objs.size + 3, t.heap.objs.size, t.heap.objs.size + 1], FpOk X pins Hx c := fun c hc => J.fpOk (new5 hc) (J.hok.fresh (new5 hc))
  rcases how with ⟨la, lb, fin⟩ | ⟨la, lb, fin⟩ | ⟨la, lb, fin⟩
  · obtain ⟨_, _, wa, _⟩ := J.list la
    obtain ⟨_, _, wb, _⟩ := J.list lb
    refine call_zip_2 wa.isList wb.isList fun k z zi zo i1 i2 _ kept => wpAny_pyIter_zip z ?_
    exact ⟨_, _, _, _, Hx, rfl, J.kept (t' := t.toks) kept, turn_zip (PySem.W.ktu_apart t.heap.objs.size a b wa.lt wb.lt), ⟨z, zi, ⟨_, _, zo⟩, i1, i2⟩, apart5, fin⟩
  · obtain ⟨ia, _, wa, _⟩ := J.tuple la
    obtain ⟨ib, _, wb, _⟩ := J.tuple lb
    have sa : a < t.heap.objs.size := by obtain ⟨_, q, _⟩ := id wa; exact Heap.lt_size q
    have sb : b < t.heap.objs.size := by obtain ⟨_, q, _⟩ := id wb; exact Heap.lt_size q
    refine RZ.call_zipT (show t.heap.IsTuple a ia.toArray from wa) (show t.heap.IsTuple b ib.toArray from wb) fun k z zi zo i1 i2 _ kept => wpAny_pyIter_zip z ?_
    exact ⟨_, _, _, _, Hx, rfl, J.kept (t' := t.toks) kept, RZ.turn_zipT (PySem.W.ktu_apart t.heap.objs.size a b sa sb), ⟨z, zi, ⟨_, _, zo⟩, i1, i2⟩, apart5, fin⟩
  · obtain ⟨ia, _, wa, _⟩ := J.tuple la
    obtain ⟨_, _, wb, _⟩ := J.list lb
    have sa : a < t.heap.objs.size := by obtain ⟨_, q, _⟩ := id wa; exact Heap.lt_size q
    refine call_zipM (show t.heap.IsTuple a ia.toArray from wa) wb.isList fun k z zi zo i1 i2 _ kept => wpAny_pyIter_zip z ?_
    exact ⟨_, _, _, _, Hx, rfl, J.kept (t' := t.toks) kept, turn_zipM (PySem.W.ktu_apart t.heap.objs.size a b sa wb.lt), ⟨z, zi, ⟨_, _, zo⟩, i1, i2⟩, apart5, fin⟩
theorem i_zip {fa : En → Option (List D)} {p tpos : Pos} {elts : List Expr} {kk : Nat} (hg : Gl X "zip") (hm : X.mg "zip" = none) (h : PA X [e, e2] (tAP X.K b fa lk)) (hs : isStar e = false) (hs2 : isStar e2 = false) : PI X (.Tuple elts kk tpos) (.Call (.Name "zip" p) [e, e2] [] pos) (tI X.K b (fun env => (fa env).bind (srcs .zip)) lk) := by
  refine ⟨fun pins s σ H R I ⟨Ox, Hb, env, its, ER, e1, k⟩ => ?_⟩
  obtain ⟨ds, e2, e3⟩ := Option.bind_eq_some_iff.mp e1
  refine (pi_zipB hg hm h (by rw [star_cons hs]) (star_any (by rw [List.all_cons, hs2]; rfl))).run pins s σ H R I ⟨Ox, Hb, env, ds, ER, e2, fun vs H1 s1 c1 => ?_⟩
  replace e3 : zipS ds = some its := e3
  have L := (ER.ext' s1).lst (L := lk)
  unfold zipS at e3
  split at e3
  · rename_i xs ys
    cases e3
    obtain ⟨v, u, rfl, rp, rp2⟩ := rps2 c1
    obtain ⟨a, vs, rfl, p, q, r⟩ := rp
    obtain ⟨c, us, rfl, p2, q2, r2⟩ := rp2
    exact ⟨a, c, vs, us, rfl, .inl ⟨.inl (.inl q), .inl (.inl q2), k _ H1 s1 (good_zipL L po_of p q r p2 q2 r2)⟩⟩
  · rename_i xs ys
    cases e3
    obtain ⟨v, u, rfl, rp, rp2⟩ := rps2 c1
    cases (show Rep _ _ _ v (.tuple xs) from rp) with
    | tup q r =>
      cases (show Rep _ _ _ u (.tuple ys) from rp2) with
      | tup q2 r2 => exact ⟨_, _, _, _, rfl, .inr (.inl ⟨q, q2, k _ H1 s1 (good_zipT L po_of q r q2 r2)⟩)⟩
  · rename_i xs ys
    cases e3
    obtain ⟨v, u, rfl, rp, rp2⟩ := rps2 c1
    cases (show Rep _ _ _ v (.tuple xs) from rp) with
    | tup q r =>
      obtain ⟨c, us, rfl, p2, q2, r2⟩ := rp2
      exact ⟨_, c, _, us, rfl, .inr (.inr ⟨q, .inl (.inl q2), k _ H1 s1 (good_zipM L po_of q r p2 q2 r2)⟩)⟩
  · cases e3
theorem i_rev {fa : En → Option RV} {p : Pos} (hg : Gl X "reversed") (hm : X.mg "reversed" = none) (h : PE X e (tP X.K b fa lk)) (hs : isStar e = false) : PI X tg (.Call (.Name "reversed" p) [e] [] pos) (tI X.K b (fun env => (fa env).bind fun x => srcs .rev [x.d]) lk) := by
  refine ⟨fun pins s σ H R I ⟨Ox, Hb, env, its, ER, e1, k⟩ => ?_⟩
  obtain ⟨x, e2, e3⟩ := Option.bind_eq_some_iff.mp e1
  obtain ⟨xs, e4, rfl⟩ := Option.map_eq_some_iff.mp (show (items x.d).map List.reverse = some its from e3)
  refine (RT.pi_revA hg hm h (star_cons hs)).run pins s σ H R I ⟨Ox, Hb, env, x, ER, e2, fun v H1 s1 c1 => ?_⟩
  have L := (ER.ext' s1).lst (L := lk)
  obtain ⟨a, vs, rfl, q, r⟩ := rp_items c1 e4
  rcases q with ⟨p, q, _⟩ | ⟨q, _⟩
  · exact ⟨a, vs, rfl, .inl ⟨.inl (.inl q), k _ H1 s1 (good_revL L po_of p q r)⟩⟩
  · exact ⟨a, vs, rfl, .inr ⟨q, k _ H1 s1 (good_revT L po_of q r)⟩⟩
end
def iEnumZ (K : PySem.W.Frag) (ta : TA) : TI := fun σ H R => ta σ H fun vs H1 => ∃ a b xs ys, vs = [.ref a, .ref b] ∧ SqL K H1 a xs ∧ SqL K H1 b ys ∧ R (IteZ K a b) H1
theorem pi_enumZ {X : Cx} {e e2 : Expr} {ta : TA} {p p2 pos pos2 tpos : Pos} {elts : List Expr} {kk : Nat} (hg : Gl X "enumerate") (hm : X.mg "enumerate" = none) (hg2 : Gl X "zip") (hm2 : X.mg "zip" = none) (ha : PA X [e, e2] ta)
    (hs : starEach [e, e2] X.env = (false, eval e X.env) :: starEach [e2] X.env := by rfl) (hpl : (backTo pos2 (starEach [e2] X.env)).any (·.1) = false := by rfl) :
    PI X (.Tuple elts kk tpos) (.Call (.Name "enumerate" p) [.Call (.Name "zip" p2) [e, e2] [] pos2] [] pos) (iEnumZ X.K ta) := by
  refine ⟨fun pins s σ H R I h => ?_⟩
  have hs2 : starEach [Expr.Call (.Name "zip" p2) [e, e2] [] pos2] X.env = (false, eval (Expr.Call (.Name "zip" p2) [e, e2] [] pos2) X.env) :: starEach [] X.env := by rfl
  refine Call_ (ld_blt I hg hm boot_enumerate (PyProof.Rows.callWith_type1 (args_cons (Call_ (ld_blt I hg2 hm2 PyProof.Rows.boot_zip (PyProof.Rows.callWith_type1 (thn (ha.run pos2 pins s σ H _ I h) fun us s1 ⟨vs, H1, I1, r1, q1⟩ => ?_) hs hpl))) hs2) hs2 rfl))
  obtain ⟨a, b, xs, ys, ex, hqx, hqy, q⟩ := q1
  subst ex
  cases r1 with
  | cons r rr =>
    cases rr with
    | cons r' rr =>
      cases rr
      cases r
      cases r'
      obtain ⟨its, rv, p1, _⟩ := I1.list hqx
      obtain ⟨its2, rv2, pp2, _⟩ := I1.list hqy
      have la : a < s1.heap.objs.size := p1.lt
      have lb : b < s1.heap.objs.size := pp2.lt
      refine call_zip_2 p1.isList pp2.isList fun k hz hTI hTO h1 h2 hsz hk => args_nil ?_
      refine en_call2 (Hh := fun h => IsZip h (s1.heap.objs.size + 4) (s1.heap.objs.size + 2) (s1.heap.objs.size + 3) .none) (fun _ _ _ _ _ _ z k => wpAny_pyIter_zip z k) hz fun k2 he hk2 => ?_
      replace he : IsEnum k2 k.objs.size (s1.heap.objs.size + 4) 0 .none := he
      show wpAny _ _ (pyIter (.ref k.objs.size)) _ _ _
      rw [hsz] at he ⊢
      refine wpAny_pyIter_enum he ?_
      have I2 : Inv X pins σ H1 { s1 with heap := k2 } := I1.kept (t' := s1.toks) fun b o z => hk2 b o (hk b o z)
      refine ⟨s1.heap.objs.size + 5, [s1.heap.objs.size + 5, s1.heap.objs.size + 4, s1.heap.objs.size + 2, s1.heap.objs.size + 3, s1.heap.objs.size, s1.heap.objs.size + 1], _, _, H1, rfl, I2, turn_enumZ (PySem.W.ktu_apart s1.heap.objs.size a b la lb) (fun c hcm => ?_),
        ⟨⟨.none, he⟩, ⟨.none, false, .inl rfl, hk2 _ _ hz⟩, hk2 _ _ hTI, ⟨_, _, hk2 _ _ hTO⟩, h1.at fun o z => hk2 _ o z, h2.at fun o z => hk2 _ o z⟩, fun c hcm => ?_, q⟩
      · have e' : c = s1.heap.objs.size + 4 ∨ c = s1.heap.objs.size + 2 ∨ c = s1.heap.objs.size + 3 ∨ c = s1.heap.objs.size ∨ c = s1.heap.objs.size + 1 := by simpa using hcm
        show s1.heap.objs.size + 5 ≠ c
        have : ∀ n m : Nat, m < n + 5 → n + 5 ≠ m := fun n m h z => by omega
        exact this _ _ (by rcases e' with z | z | z | z | z <;> (rw [z]; simp))
      · have e' : c = s1.heap.objs.size + 5 ∨ c = s1.heap.objs.size + 4 ∨ c = s1.heap.objs.size + 2 ∨ c = s1.heap.objs.size + 3 ∨ c = s1.heap.objs.size ∨ c = s1.heap.objs.size + 1 := by simpa using hcm
        have hle : s1.heap.objs.size ≤ c := by
          rcases e' with z | z | z | z | z | z <;> (rw [z]; simp)
        exact I1.fpOk hle (I1.hok.fresh hle)
section
variable {X : Cx} {K : PySem.W.Frag} {O Ox P : Addr → Prop} {H : Hp} {a b : Addr} {vs us : List V} {xs ys : List D} {e e2 : Expr} {pos : Pos} {lk : List Nat} {bb : Bool}
theorem nums_get {xs : List D} {i : Nat} {d : D} (h : (nums xs)[i]? = some d) : ∃ y, xs[i]? = some y ∧ d = .tuple [.int (i : Nat), y] := by
  unfold nums at h
  rw [List.getElem?_map, List.getElem?_zipIdx] at h
  obtain ⟨q, e1, e2⟩ := Option.map_eq_some_iff.mp h
  obtain ⟨y, e3, e4⟩ := Option.map_eq_some_iff.mp e1
  subst e4 e2
  exact ⟨y, e3, by rw [show ((0 + i : Nat) : Int) = (i : Int) by omega]⟩
theorem nums_len (xs : List D) : (nums xs).length = xs.length := by unfold nums; simp
theorem good_enumR (ol : ∀ a, O a → ∃ xs, H a = some (.lst xs)) (po : ∀ a, Ox a ∨ P a → O a) (p : ¬ P a) (e : H a = some (.lst vs)) (r : Reps K O H vs xs) : Good K Ox (notOwn P H) (IteR K a vs.length) (nums xs.reverse) where
  stop := fun i H' s hi => by rw [nums_len, List.length_reverse, ← r.length] at hi; exact hi
  go := fun i d H' s hd => by
    obtain ⟨y, e1, rfl⟩ := nums_get hd
    obtain ⟨h1, h2⟩ := rev_get e1
    obtain ⟨v, e5, _⟩ := r.get h2
    exact ⟨by rw [r.length]; exact h1, vs, v, seq_later p e s, by rw [r.length]; exact e5⟩
  yld := fun i d H' x H'' s hd ⟨T, w, e1, n, e2, h⟩ => by
    subst e1 e2
    obtain ⟨y, e1, rfl⟩ := nums_get hd
    obtain ⟨h1, h2⟩ := rev_get e1
    obtain ⟨v, e5, rv⟩ := r.get h2
    have := h vs (seq_later p e s)
    rw [r.length, e5] at this
    cases this
    exact ⟨same_new n, fun O' oo oh => .tup (SqT.of upd_same) (.cons (.int _) (.cons (rep_ext (same_new n) oh (rep_later ol po s rv O' oo)) .nil))⟩
theorem good_enumZ (ol : ∀ a, O a → ∃ xs, H a = some (.lst xs)) (po : ∀ a, Ox a ∨ P a → O a) (p : ¬ P a) (e : H a = some (.lst vs)) (r : Reps K O H vs xs) (p2 : ¬ P b) (e2 : H b = some (.lst us)) (r2 : Reps K O H us ys) :
    Good K Ox (notOwn P H) (IteZ K a b) (nums ((xs.zip ys).map fun p => .tuple [p.1, p.2])) where
  stop := fun i H' s hi => ⟨vs, us, seq_later p e s, seq_later p2 e2 s, by rw [nums_len, List.length_map, List.length_zip] at hi; rw [r.length, r2.length]; omega⟩
  go := fun i d H' s hd => by
    obtain ⟨y, e1, rfl⟩ := nums_get hd
    rw [List.getElem?_map] at e1
    obtain ⟨q, h1, rfl⟩ := Option.map_eq_some_iff.mp e1
    obtain ⟨h2, h3⟩ := zip_get h1
    obtain ⟨v, e5, _⟩ := r.get h2
    obtain ⟨u, e6, _⟩ := r2.get h3
    exact ⟨vs, us, v, u, seq_later p e s, seq_later p2 e2 s, e5, e6⟩
  yld := fun i d H' x H'' s hd ⟨T, U, w, w2, e1, n, n2, nu, e3, h, h'⟩ => by
    subst e1 e3
    obtain ⟨y, e1, rfl⟩ := nums_get hd
    rw [List.getElem?_map] at e1
    obtain ⟨q, h1, rfl⟩ := Option.map_eq_some_iff.mp e1
    obtain ⟨h2, h3⟩ := zip_get h1
    obtain ⟨v, e5, rv⟩ := r.get h2
    obtain ⟨u, e6, ru⟩ := r2.get h3
    have w1 := h vs (seq_later p e s)
    rw [e5] at w1
    cases w1
    have w1 := h' us (seq_later p2 e2 s)
    rw [e6] at w1
    cases w1
    have sm1 : Same H' (upd H' T (.tup [w, w2])) := same_new n
    have n3 : upd H' T (.tup [w, w2]) U = none := by rw [upd_ne nu]; exact n2
    have sm2 := sm1.trans (same_new (o := HO.tup [V.int (i : Nat), .ref T]) n3)
    refine ⟨sm2, fun O' oo oh => ?_⟩
    refine .tup (SqT.of upd_same) (.cons (.int _) (.cons (.tup (SqT.of ?_) (.cons (rep_ext sm2 oh (rep_later ol po s rv O' oo)) (.cons (rep_ext sm2 oh (rep_later ol po s ru O' oo)) .nil))) .nil))
    rw [upd_ne (Ne.symm nu)]; exact upd_same
theorem i_ez {fa : En → Option (List D)} {p p2 pos2 tpos : Pos} {elts : List Expr} {kk : Nat} (hg : Gl X "enumerate") (hm : X.mg "enumerate" = none) (hg2 : Gl X "zip") (hm2 : X.mg "zip" = none) (h : PA X [e, e2] (tAP X.K bb fa lk)) (hs : isStar e = false) (hs2 : isStar e2 = false) :
    PI X (.Tuple elts kk tpos) (.Call (.Name "enumerate" p) [.Call (.Name "zip" p2) [e, e2] [] pos2] [] pos) (tI X.K bb (fun env => (fa env).bind (srcs .ez)) lk) := by
  refine ⟨fun pins s σ H R I ⟨Ox, Hb, env, its, ER, e1, k⟩ => ?_⟩
  obtain ⟨ds, e3, e4⟩ := Option.bind_eq_some_iff.mp e1
  refine (pi_enumZ hg hm hg2 hm2 h (by rw [star_cons hs]) (star_any (by rw [List.all_cons, hs2]; rfl))).run pins s σ H R I ⟨Ox, Hb, env, ds, ER, e3, fun vs H1 s1 c1 => ?_⟩
  replace e4 : ezS ds = some its := e4
  have L := (ER.ext' s1).lst (L := lk)
  unfold ezS at e4
  split at e4
  · rename_i xs ys
    cases e4
    obtain ⟨v, u, rfl, rp, rp2⟩ := rps2 c1
    obtain ⟨a, vs, rfl, p, q, r⟩ := rp
    obtain ⟨c, us, rfl, p2, q2, r2⟩ := rp2
    exact ⟨a, c, vs, us, rfl, .inl (.inl q), .inl (.inl q2), k _ H1 s1 (good_enumZ L po_of p q r p2 q2 r2)⟩
  · cases e4
theorem i_er {fa : En → Option RV} {p p2 pos2 tpos : Pos} {elts : List Expr} {kk : Nat} (hg : Gl X "enumerate") (hm : X.mg "enumerate" = none) (hg2 : Gl X "reversed") (hm2 : X.mg "reversed" = none) (h : PE X e (tP X.K bb fa lk)) (hs : isStar e = false) :
    PI X (.Tuple elts kk tpos) (.Call (.Name "enumerate" p) [.Call (.Name "reversed" p2) [e] [] pos2] [] pos) (tI X.K bb (fun env => (fa env).bind fun x => srcs .er [x.d]) lk) := by
  refine ⟨fun pins s σ H R I ⟨Ox, Hb, env, its, ER, e1, k⟩ => ?_⟩
  obtain ⟨x, e2, e3⟩ := Option.bind_eq_some_iff.mp e1
  replace e3 : erS [x.d] = some its := e3
  refine (pi_enumR hg hm hg2 hm2 h (star_cons hs)).run pins s σ H R I ⟨Ox, Hb, env, x, ER, e2, fun v H1 s1 c1 => ?_⟩
  have L := (ER.ext' s1).lst (L := lk)
  unfold erS at e3
  split at e3
  · rename_i xs e5
    cases e3
    rw [(List.cons.inj e5).1] at c1
    obtain ⟨a, vs, rfl, p, q, r⟩ := c1
    exact ⟨a, vs, rfl, .inl (.inl q), k _ H1 s1 (good_enumR L po_of p q r)⟩
  · cases e3
end
end Wi

namespace Wi
open PySem PySem.Spec PyProof.Rows L2
section
variable {K : PySem.W.Frag} {Ox : Addr → Prop} {Hb H H' : Hp} {σ : Sg} {env : En} {i : Nat} {v : V} {d : D} {r : RV} {L : List Nat}
theorem ownAt_set {j : Nat} {a : Addr} {d : D} {v : V} (h : OwnAt (σ.set i (some v)) (env.set i (.v d)) j a) (hl : σ.length = env.length) : j ≠ i ∧ OwnAt σ env j a := by
  obtain ⟨⟨ds, e⟩, e2⟩ := h
  by_cases hj : j = i
  · subst hj
    by_cases hlt : j < env.length
    · rw [List.getElem?_set_self hlt] at e; cases e
    · rw [List.getElem?_eq_none (by simpa using hlt)] at e; cases e
  · rw [List.getElem?_set_ne (Ne.symm hj)] at e e2
    exact ⟨hj, ⟨ds, e⟩, e2⟩
theorem of_set (hl : σ.length = env.length) : ∀ a, Of Ox (σ.set i (some v)) (env.set i (.v d)) [] a → Of Ox σ env [] a := fun a z => by
  rcases z with z | ⟨j, n, z⟩
  · exact .inl z
  · exact .inr ⟨j, n, (ownAt_set z hl).2⟩
theorem ER.set (R : ER K Ox Hb H σ env) (hi : i < env.length) (h : Rep K (Of Ox σ env []) H v d) : ER K Ox Hb H (σ.set i (some v)) (env.set i (.v d)) := by
  have sub : ∀ a, Of Ox (σ.set i (some v)) (env.set i (.v d)) [] a → Of Ox σ env [] a := fun a z => by
    rcases z with z | ⟨j, n, z⟩
    · exact .inl z
    · exact .inr ⟨j, n, (ownAt_set z R.len).2⟩
  have hs : i < σ.length := by rw [R.len]; exact hi
  refine ⟨by simpa using R.len, R.ext, R.ox, fun j e q => ?_, fun j ds q => ?_, fun j k a p q => R.dis j k a (ownAt_set p R.len).2 (ownAt_set q R.len).2⟩
  · by_cases hj : j = i
    · subst hj
      rw [List.getElem?_set_self hi] at q
      cases q
      exact ⟨v, List.getElem?_set_self hs, rep_weak R.lst sub h⟩
    · rw [List.getElem?_set_ne (Ne.symm hj)] at q ⊢
      obtain ⟨u, e1, e2⟩ := R.val j e q
      exact ⟨u, e1, rep_weak R.lst sub e2⟩
  · by_cases hj : j = i
    · subst hj
      rw [List.getElem?_set_self hi] at q
      cases q
    · rw [List.getElem?_set_ne (Ne.symm hj)] at q ⊢
      obtain ⟨a, vs, e1, e2, e3, e4, e5⟩ := R.own j ds q
      exact ⟨a, vs, e1, e2, e3, e4, reps_weak R.lst sub e5⟩
/-- a slot emptied -/
theorem ER.drop (R : ER K Ox Hb H σ env) {o : Option V} (hi : i < env.length) : ER K Ox Hb H (σ.set i o) (env.set i .no) := by
  have own : ∀ {j a}, OwnAt (σ.set i o) (env.set i .no) j a → OwnAt σ env j a := fun {j a} h => by
    obtain ⟨⟨ds, e⟩, e2⟩ := h
    by_cases hj : j = i
    · subst hj
      rw [List.getElem?_set_self hi] at e; cases e
    · rw [List.getElem?_set_ne (Ne.symm hj)] at e e2
      exact ⟨⟨ds, e⟩, e2⟩
  have sub : ∀ a, Of Ox (σ.set i o) (env.set i .no) [] a → Of Ox σ env [] a := fun a z => by
    rcases z with z | ⟨j, n, z⟩
    · exact .inl z
    · exact .inr ⟨j, n, own z⟩
  refine ⟨by simpa using R.len, R.ext, R.ox, fun j e q => ?_, fun j ds q => ?_, fun j k a p q => R.dis j k a (own p) (own q)⟩
  · by_cases hj : j = i
    · subst hj
      rw [List.getElem?_set_self hi] at q
      cases q
    · rw [List.getElem?_set_ne (Ne.symm hj)] at q ⊢
      obtain ⟨u, e1, e2⟩ := R.val j e q
      exact ⟨u, e1, rep_weak R.lst sub e2⟩
  · by_cases hj : j = i
    · subst hj
      rw [List.getElem?_set_self hi] at q
      cases q
    · rw [List.getElem?_set_ne (Ne.symm hj)] at q ⊢
      obtain ⟨a, vs, e1, e2, e3, e4, e5⟩ := R.own j ds q
      exact ⟨a, vs, e1, e2, e3, e4, reps_weak R.lst sub e5⟩
theorem set_self_val {σ : Sg} {i : Nat} {v : V} (h : σ[i]? = some (some v)) : σ.set i (some v) = σ := by
  apply List.ext_getElem?
  intro j
  by_cases hj : j = i
  · subst hj
    obtain ⟨h1, h2⟩ := List.getElem?_eq_some_iff.mp h
    rw [List.getElem?_set_self h1, h]
  · rw [List.getElem?_set_ne (Ne.symm hj)]
/-- a list that is no longer one's own -/
theorem ER.dem1 (R : ER K Ox Hb H σ env) {ds : List D} (h : env[i]? = some (.own ds)) : ER K Ox Hb H σ (env.set i (.v (.list ds))) := by
  obtain ⟨a, vs, e1, e2, e3, e4, e5⟩ := R.own i ds h
  have hi : i < env.length := (List.getElem?_eq_some_iff.mp h).1
  have es : σ.set i (some (.ref a)) = σ := set_self_val e1
  have own : ∀ {j b}, OwnAt σ (env.set i (.v (.list ds))) j b → j ≠ i ∧ OwnAt σ env j b := fun {j b} z => ownAt_set (v := .ref a) (by rw [es]; exact z) R.len
  have sub : ∀ a, Of Ox σ (env.set i (.v (.list ds))) [] a → Of Ox σ env [] a := fun a z => by
    rcases z with z | ⟨j, n, z⟩
    · exact .inl z
    · exact .inr ⟨j, n, (own z).2⟩
  refine ⟨by simpa using R.len, R.ext, R.ox, fun j e q => ?_, fun j es q => ?_, fun j k b p q => R.dis j k b (own p).2 (own q).2⟩
  · by_cases hj : j = i
    · subst hj
      rw [List.getElem?_set_self hi] at q
      cases q
      refine ⟨.ref a, e1, .lst (fun z => ?_) e4 (reps_weak R.lst sub e5)⟩
      rcases z with z | ⟨k, _, z⟩
      · exact e3 z
      · exact (own z).1 (R.dis k j a (own z).2 ⟨⟨ds, h⟩, e1⟩)
    · rw [List.getElem?_set_ne (Ne.symm hj)] at q
      obtain ⟨u, e1, e2⟩ := R.val j e q
      exact ⟨u, e1, rep_weak R.lst sub e2⟩
  · by_cases hj : j = i
    · subst hj
      rw [List.getElem?_set_self hi] at q
      cases q
    · rw [List.getElem?_set_ne (Ne.symm hj)] at q
      obtain ⟨a, vs, e1, e2, e3, e4, e5⟩ := R.own j _ q
      exact ⟨a, vs, e1, e2, e3, e4, reps_weak R.lst sub e5⟩
theorem demote_length : ∀ (L : List Nat) (env : En), (demote env L).length = env.length
  | [], _ => rfl
  | i :: r, env => by
    unfold demote
    split
    · rw [demote_length r]; simp
    · exact demote_length r env
theorem ER.dem : ∀ (L : List Nat) {env : En}, ER K Ox Hb H σ env → ER K Ox Hb H σ (demote env L)
  | [], _, R => R
  | i :: r, env, R => by
    unfold demote
    split
    · rename_i ds h
      exact ER.dem r (R.dem1 h)
    · exact ER.dem r R
theorem own_dem : ∀ (L : List Nat) {env : En} {j : Nat} {a : Addr}, OwnAt σ (demote env L) j a → j ∉ L ∧ OwnAt σ env j a
  | [], _, _, _, h => ⟨by simp, h⟩
  | i :: r, env, j, a, h => by
    unfold demote at h
    split at h
    · rename_i ds q
      obtain ⟨h1, ⟨ds', e⟩, e2⟩ := own_dem r h
      have hj : j ≠ i := fun z => by
        subst z
        rw [List.getElem?_set_self (List.getElem?_eq_some_iff.mp q).1] at e
        cases e
      rw [List.getElem?_set_ne (Ne.symm hj)] at e
      exact ⟨by simp [hj, h1], ⟨ds', e⟩, e2⟩
    · rename_i q
      obtain ⟨h1, ⟨ds', e⟩, e2⟩ := own_dem r h
      have hj : j ≠ i := fun z => by
        subst z
        exact q _ e
      exact ⟨by simp [hj, h1], ⟨ds', e⟩, e2⟩
theorem dem_own : ∀ (L : List Nat) {env : En} {j : Nat} {a : Addr}, j ∉ L → OwnAt σ env j a → OwnAt σ (demote env L) j a
  | [], _, _, _, _, h => h
  | i :: r, env, j, a, n, h => by
    have hj : j ≠ i := fun z => n (by simp [z])
    have hr : j ∉ r := fun z => n (by simp [z])
    unfold demote
    split
    · rename_i ds q
      obtain ⟨⟨ds', e⟩, e2⟩ := h
      exact dem_own r hr ⟨⟨ds', by rw [List.getElem?_set_ne (Ne.symm hj)]; exact e⟩, e2⟩
    · exact dem_own r hr h
theorem of_dem : ∀ a, Of Ox σ (demote env L) [] a → Of Ox σ env L a := fun a h => by
  rcases h with h | ⟨i, _, h⟩
  · exact .inl h
  · exact .inr ⟨i, own_dem L h⟩
theorem RR.free {O O' : Addr → Prop} (h : RR K O H H' v r) (n : r.noL = true) : RR K O' H H' v r := by
  cases r with
  | v d => exact Rep.free d v n h
  | l ds =>
    obtain ⟨a, vs, e, n1, e2, q⟩ := h
    exact ⟨a, vs, e, n1, e2, Reps.free ds vs n q⟩
theorem after_ok (R : ER K Ox Hb H σ env) (s : Same H H') (h : RR K (Of Ox σ env L) H H' v r) : ER K Ox Hb H σ (after r L env) ∧ RR K (Of Ox σ (after r L env) []) H H' v r := by
  unfold after
  split
  · exact ⟨R, h⟩
  · split
    · rename_i n; exact ⟨R, h.free n⟩
    · exact ⟨R.dem _, h.weak (R.ext' s).lst of_dem⟩
theorem after_length : (after r L env).length = env.length := by
  unfold after
  split
  · rfl
  · split
    · rfl
    · exact demote_length _ _
/-- x = a result -/
theorem ER.put (R : ER K Ox Hb H σ env) (s : Same H H') (h : RR K (Of Ox σ env []) H H' v r) (hi : i < env.length) : ER K Ox Hb H' (σ.set i (some v)) (env.set i r.sl) := by
  cases r with
  | v d => exact (R.ext' s).set hi h
  | l ds =>
    obtain ⟨a, vs, rfl, n, e, q0⟩ := h
    have hs : i < σ.length := by rw [R.len]; exact hi
    have own : ∀ {j b}, OwnAt (σ.set i (some (.ref a))) (env.set i (.own ds)) j b → (j = i ∧ b = a) ∨ (j ≠ i ∧ OwnAt σ env j b) := fun {j b} z => by
      obtain ⟨⟨ds', e1⟩, e2⟩ := z
      by_cases hj : j = i
      · subst hj
        rw [List.getElem?_set_self hs] at e2
        cases e2
        exact .inl ⟨rfl, rfl⟩
      · rw [List.getElem?_set_ne (Ne.symm hj)] at e1 e2
        exact .inr ⟨hj, ⟨ds', e1⟩, e2⟩
    have sub : ∀ b, Of Ox (σ.set i (some (.ref a))) (env.set i (.own ds)) [] b → Of Ox σ env [] b ∨ H b = none := fun b z => by
      rcases z with z | ⟨j, nj, z⟩
      · exact .inl (.inl z)
      · rcases own z with ⟨_, rfl⟩ | ⟨_, z⟩
        · exact .inr n
        · exact .inl (.inr ⟨j, nj, z⟩)
    have na : ∀ {b u}, H b = some u → b ≠ a := fun {b u} e z => by rw [z, n] at e; cases e
    have up : ∀ {w : V} {x : D}, Rep K (Of Ox σ env []) H w x → Rep K (Of Ox (σ.set i (some (.ref a))) (env.set i (.own ds)) []) H' w x := fun {w x} r => Rep.mono (fun b o q _ => s b o q) R.lst sub x w r
    have ups : ∀ {w : List V} {x : List D}, Reps K (Of Ox σ env []) H w x → Reps K (Of Ox (σ.set i (some (.ref a))) (env.set i (.own ds)) []) H' w x := fun {w x} r => Reps.mono (fun b o q _ => s b o q) R.lst sub x w r
    refine ⟨by simpa using R.len, R.ext.trans s, (R.ext' s).ox, fun j x q => ?_, fun j es q => ?_, fun j k b p q => ?_⟩
    · by_cases hj : j = i
      · subst hj
        rw [List.getElem?_set_self hi] at q
        cases q
      · rw [List.getElem?_set_ne (Ne.symm hj)] at q ⊢
        obtain ⟨u, e1, e2⟩ := R.val j x q
        exact ⟨u, e1, up e2⟩
    · by_cases hj : j = i
      · subst hj
        rw [List.getElem?_set_self hi] at q
        cases q
        have nox : ¬ Ox a := fun z => by obtain ⟨xs, e⟩ := R.ox a z; rw [n] at e; cases e
        refine ⟨a, vs, List.getElem?_set_self hs, ?_, nox, e, ?_⟩
        · exact R.ext.free n
        · refine reps_weak (ol_or e (R.ext' s).lst) (fun b z => ?_) q0
          rcases z with z | ⟨k, nk, z⟩
          · exact .inl (.inl z)
          · rcases own z with ⟨_, rfl⟩ | ⟨_, z⟩
            · exact .inr rfl
            · exact .inl (.inr ⟨k, nk, z⟩)
      · rw [List.getElem?_set_ne (Ne.symm hj)] at q ⊢
        obtain ⟨b, us, e1, e2, e3, e4, e5⟩ := R.own j es q
        exact ⟨b, us, e1, e2, e3, s _ _ e4, ups e5⟩
    · rcases own p with ⟨rfl, rfl⟩ | ⟨hj, p1⟩
      · rcases own q with ⟨rfl, _⟩ | ⟨hk, q1⟩
        · rfl
        · obtain ⟨⟨ds', e1⟩, e2⟩ := q1
          obtain ⟨b, us, e3, _, _, e4, _⟩ := R.own k ds' e1
          rw [e3] at e2; cases e2
          exact absurd rfl (na e4)
      · rcases own q with ⟨rfl, rfl⟩ | ⟨hk, q1⟩
        · obtain ⟨⟨ds', f1⟩, f2⟩ := p1
          obtain ⟨b, us, e3, _, _, e4, _⟩ := R.own j ds' f1
          rw [e3] at f2; cases f2
          exact absurd rfl (na e4)
        · exact R.dis j k b p1 q1
end

def tG (K : PySem.W.Frag) (t : Tg) : TG := fun v σ H Q => ∃ Ox Hb env d env', ER K Ox Hb H σ env ∧ Rep K (Of Ox σ env []) H v d ∧ bind t d env = some env' ∧ ∀ σ', (∀ vs : List Nat, (∀ i ∈ tgSlots t, i ∈ vs) → wipe σ' vs = wipe σ vs) → (∀ a, Of Ox σ' env' [] a → Of Ox σ env [] a) → ER K Ox Hb H σ' env' → Q σ' H
def tGs (K : PySem.W.Frag) (ts : List Tg) : TGs := fun us σ H Q => ∃ Ox Hb env ds env', ER K Ox Hb H σ env ∧ Reps K (Of Ox σ env []) H us ds ∧ binds ts ds env = some env' ∧ ∀ σ', (∀ vs : List Nat, (∀ i ∈ tgSlotss ts, i ∈ vs) → wipe σ' vs = wipe σ vs) → (∀ a, Of Ox σ' env' [] a → Of Ox σ env [] a) → ER K Ox Hb H σ' env' → Q σ' H
theorem wipe_comm (σ : Sg) (i : Nat) (o : Option V) : ∀ vs : List Nat, i ∉ vs → wipe (σ.set i o) vs = (wipe σ vs).set i o
  | [], _ => rfl
  | v :: vs, h => by
    have h1 : i ≠ v := fun z => h (by simp [z])
    have h2 : i ∉ vs := fun z => h (by simp [z])
    show (wipe (σ.set i o) vs).set v none = ((wipe σ vs).set v none).set i o
    rw [wipe_comm σ i o vs h2, List.set_comm _ _ h1]
theorem wipe_set (σ : Sg) (i : Nat) (o : Option V) : ∀ vs : List Nat, i ∈ vs → wipe (σ.set i o) vs = wipe σ vs
  | [], h => by cases h
  | v :: vs, h => by
    show (wipe (σ.set i o) vs).set v none = (wipe σ vs).set v none
    by_cases h2 : i ∈ vs
    · rw [wipe_set σ i o vs h2]
    · have hv : i = v := by
        rcases List.mem_cons.mp h with z | z
        · exact z
        · exact absurd z h2
      subst hv
      rw [wipe_comm σ i o vs h2, List.set_set]
section
variable {X : Cx} {e : Expr} {es : List Expr} {pos : Pos}
theorem pg_mono {t t' : TG} (h : PG X e t) (m : ∀ v σ H Q, t' v σ H Q → t v σ H Q) : PG X e t' := ⟨fun pins s σ H v u Q I r q => h.run pins s σ H v u Q I r (m v σ H Q q)⟩
theorem pgs_mono {t t' : TGs} (h : PGs X es t) (m : ∀ v σ H Q, t' v σ H Q → t v σ H Q) : PGs X es t' := ⟨fun pins s σ H v u Q I r q => h.run pins s σ H v u Q I r (m v σ H Q q)⟩
theorem g_name {i : Nat} {x : Str} (hN : X.N.Nodup) (hi : X.N[i]? = some x) (hx : Loc X.env.scope x) (hf : X.fn x = true ∨ X.env.scope.names.lookup x = some .local) : PG X (.Name x pos) (tG X.K (.n i)) :=
  ⟨fun pins s σ H v u Q I rv ⟨Ox, Hb, env, d, env', R, rp, e, k⟩ => by
    cases (show some (env.set i (.v d)) = some env' from e)
    have hl : i < env.length := by
      rw [← R.len, I.len]
      exact (List.getElem?_eq_some_iff.mp hi).1
    exact (pg_name hN hi hx hf).run pins s σ H v u Q I rv (k _ (fun vs h => wipe_set σ i _ vs (h i (by simp [tgSlots]))) (of_set R.len) (R.set hl rp))⟩
theorem assign_each {env : Env} : ∀ {es : List Expr}, es.all (fun e => !isStar e) = true → assignEach es env = es.map fun e => (false, assign e env)
  | [], _ => rfl
  | e :: es, h => by
    rw [List.all_cons, Bool.and_eq_true, Bool.not_eq_true'] at h
    have ih := assign_each (env := env) h.2
    have : assignEach (e :: es) env = (false, assign e env) :: assignEach es env := by
      cases e <;> first | rfl | cases h.1
    rw [this, ih]; rfl
theorem gs_nil : PGs X [] (tGs X.K []) := pgs_mono pgs_nil fun us σ H Q ⟨Ox, Hb, env, ds, env', R, rp, e, k⟩ => by
  cases ds with
  | nil =>
    cases (show some env = some env' from e)
    cases rp
    exact ⟨rfl, k σ (fun _ _ => rfl) (fun _ z => z) R⟩
  | cons d ds => cases (show none = some env' from e)
theorem gs_cons {t : Tg} {ts : List Tg} (h : PG X e (tG X.K t)) (hs : PGs X es (tGs X.K ts)) (hst : (e :: es).all (fun e => !isStar e) = true) : PGs X (e :: es) (tGs X.K (t :: ts)) := by
  have h2 := hst
  rw [List.all_cons, Bool.and_eq_true] at h2
  refine pgs_mono (pgs_cons h hs (by rw [assign_each hst, assign_each h2.2]; rfl)) fun us σ H Q ⟨Ox, Hb, env, ds, env', R, rp, e, k⟩ => ?_
  cases ds with
  | nil => cases (show none = some env' from e)
  | cons d ds =>
    obtain ⟨env1, e1, e2⟩ := Option.bind_eq_some_iff.mp (show (bind t d env).bind (binds ts ds) = some env' from e)
    cases rp with
    | cons r1 r2 =>
      refine ⟨_, _, rfl, Ox, Hb, env, d, env1, R, r1, e1, fun σ1 w1 o1 R1 => ⟨Ox, Hb, env1, ds, env', R1, reps_weak R.lst o1 r2, e2, fun σ2 w2 o2 R2 => k σ2 (fun vs hv => ?_) (fun a z => o1 a (o2 a z)) R2⟩⟩
      rw [w2 vs fun i hi => hv i (by show i ∈ tgSlots t ++ tgSlotss ts; exact List.mem_append_right _ hi), w1 vs fun i hi => hv i (by show i ∈ tgSlots t ++ tgSlotss ts; exact List.mem_append_left _ hi)]
theorem binds_length : ∀ {ts : List Tg} {ds : List D} {env env' : En}, binds ts ds env = some env' → ds.length = ts.length
  | [], [], _, _, _ => rfl
  | [], _ :: _, _, _, h => by cases h
  | _ :: _, [], _, _, h => by cases h
  | t :: ts, d :: ds, env, env', h => by
    obtain ⟨env1, e1, e2⟩ := Option.bind_eq_some_iff.mp (show (bind t d env).bind (binds ts ds) = some env' from h)
    rw [List.length_cons, List.length_cons, binds_length e2]
theorem g_tup {ts : List Tg} {k0 : Nat} (hc : X.calm = true) (h : PGs X es (tGs X.K ts)) (hst : es.all (fun e => !isStar e) = true) (hl : es.length = ts.length) : PG X (.Tuple es k0 pos) (tG X.K (.t ts)) := by
  refine pg_mono (pg_tup (n := ts.length) hc h (by rw [assign_each hst, List.length_map, hl]) ?_) fun v σ H Q ⟨Ox, Hb, env, d, env', R, rp, e, k⟩ => ?_
  · rw [assign_each hst, List.findIdx?_eq_none_iff]
    intro x hx
    obtain ⟨y, _, rfl⟩ := List.mem_map.mp hx
    rfl
  · cases d with
    | tuple ds =>
      have e : binds ts ds env = some env' := e
      cases rp with
      | tup hs hr => exact ⟨_, _, rfl, hs, by rw [hr.length, binds_length e], Ox, Hb, env, ds, env', R, hr, e, k⟩
    | _ => cases (show none = some env' from e)
end
end Wi

namespace Wi
open PySem PySem.Spec PyProof.Rows L2
theorem wipeE_length (env : En) : ∀ vs : List Nat, (wipeE env vs).length = env.length
  | [] => rfl
  | v :: vs => by unfold wipeE; rw [List.length_set, wipeE_length env vs]
theorem wipeE_some {env : En} {i : Nat} {x : Sl} : ∀ {vs : List Nat}, (wipeE env vs)[i]? = some x → x ≠ .no → env[i]? = some x ∧ i ∉ vs
  | [], h, _ => ⟨h, by simp⟩
  | v :: vs, h, n => by
    unfold wipeE at h
    by_cases hi : v = i
    · subst hi
      by_cases hv : v < (wipeE env vs).length
      · rw [List.getElem?_set_self hv] at h; cases h; exact absurd rfl n
      · rw [List.getElem?_eq_none (by simpa using hv)] at h; cases h
    · rw [List.getElem?_set_ne hi] at h
      obtain ⟨h1, h2⟩ := wipeE_some h n
      exact ⟨h1, by simp only [List.mem_cons, not_or]; exact ⟨fun e => hi e.symm, h2⟩⟩
theorem wipeE_out {env : En} {i : Nat} : ∀ {vs : List Nat}, i ∉ vs → (wipeE env vs)[i]? = env[i]?
  | [], _ => rfl
  | v :: vs, h => by
    have h1 : v ≠ i := fun z => h (by simp [z])
    have h2 : i ∉ vs := fun z => h (by simp [z])
    unfold wipeE
    rw [List.getElem?_set_ne h1, wipeE_out h2]
mutual
theorem bind_out {i : Nat} : ∀ (t : Tg) {d : D} {env env' : En}, bind t d env = some env' → i ∉ tgSlots t → env'[i]? = env[i]?
  | .n j, d, env, env', h, n => by
    cases (show some (env.set j (.v d)) = some env' from h)
    have : j ≠ i := fun z => n (by simp [tgSlots, z])
    rw [List.getElem?_set_ne this]
  | .t ts, .tuple ds, env, env', h, n => binds_out ts (show binds ts ds env = some env' from h) n
  | .t _, .none, _, _, h, _ => by cases h
  | .t _, .bool _, _, _, h, _ => by cases h
  | .t _, .int _, _, _, h, _ => by cases h
  | .t _, .str _, _, _, h, _ => by cases h
  | .t _, .list _, _, _, h, _ => by cases h
  | .t _, .dict _, _, _, h, _ => by cases h
theorem binds_out {i : Nat} : ∀ (ts : List Tg) {ds : List D} {env env' : En}, binds ts ds env = some env' → i ∉ tgSlotss ts → env'[i]? = env[i]?
  | [], [], env, env', h, _ => by cases (show some env = some env' from h); rfl
  | [], _ :: _, _, _, h, _ => by cases h
  | _ :: _, [], _, _, h, _ => by cases h
  | t :: ts, d :: ds, env, env', h, n => by
    obtain ⟨env1, e1, e2⟩ := Option.bind_eq_some_iff.mp (show (bind t d env).bind (binds ts ds) = some env' from h)
    have n' : i ∉ tgSlots t ++ tgSlotss ts := n
    rw [List.mem_append, not_or] at n'
    rw [binds_out ts e2 n'.2, bind_out t e1 n'.1]
end
section
variable {K : PySem.W.Frag} {Ox : Addr → Prop} {Hb H H1 : Hp} {σ : Sg} {env : En} {D0 : Addr} {acc : List V} {vs : List Nat}
/-- what may not be in a block's values: besides, the new list, the lists that the block does not see -/
def Oxb (Ox : Addr → Prop) (σ : Sg) (env : En) (vs : List Nat) (D0 : Addr) (a : Addr) : Prop := Ox a ∨ a = D0 ∨ ∃ i, i ∈ vs ∧ OwnAt σ env i a
theorem own_blk {i : Nat} {a : Addr} (h : OwnAt (wipe σ vs) (wipeE env vs) i a) : i ∉ vs ∧ OwnAt σ env i a := by
  obtain ⟨⟨ds, e⟩, e2⟩ := h
  obtain ⟨h1, h2⟩ := wipeE_some e (fun z => by cases z)
  rw [wipe_out h2] at e2
  exact ⟨h2, ⟨ds, h1⟩, e2⟩
theorem blk_own {i : Nat} {a : Addr} (h : OwnAt σ env i a) (n : i ∉ vs) : OwnAt (wipe σ vs) (wipeE env vs) i a := by
  obtain ⟨⟨ds, e⟩, e2⟩ := h
  exact ⟨⟨ds, by rw [wipeE_out n]; exact e⟩, by rw [wipe_out n]; exact e2⟩
theorem of_blk (hn : H1 D0 = none) : ∀ a, Of (Oxb Ox σ env vs D0) (wipe σ vs) (wipeE env vs) [] a → Of Ox σ env [] a ∨ H1 a = none := fun a h => by
  rcases h with (h | h | ⟨i, hi, h⟩) | ⟨i, hi, h⟩
  · exact .inl (.inl h)
  · exact .inr (by rw [h]; exact hn)
  · exact .inl (.inr ⟨i, by simp, h⟩)
  · exact .inl (.inr ⟨i, by simp, (own_blk h).2⟩)
theorem blk_er (R : ER K Ox Hb H1 σ env) (hn : H1 D0 = none) (s : Same H1 H) (hD : H D0 = some (.lst acc)) : ER K (Oxb Ox σ env vs D0) Hb H (wipe σ vs) (wipeE env vs) := by
  have up : ∀ {w : V} {x : D}, Rep K (Of Ox σ env []) H1 w x → Rep K (Of (Oxb Ox σ env vs D0) (wipe σ vs) (wipeE env vs) []) H w x := fun {w x} r => Rep.mono (fun b o q _ => s b o q) R.lst (of_blk hn) x w r
  have ups : ∀ {w : List V} {x : List D}, Reps K (Of Ox σ env []) H1 w x → Reps K (Of (Oxb Ox σ env vs D0) (wipe σ vs) (wipeE env vs) []) H w x := fun {w x} r => Reps.mono (fun b o q _ => s b o q) R.lst (of_blk hn) x w r
  refine ⟨by rw [wipe_length, wipeE_length]; exact R.len, R.ext.trans s, fun a h => ?_, fun i d h => ?_, fun i ds h => ?_, fun i j a p q => R.dis i j a (own_blk p).2 (own_blk q).2⟩
  · rcases h with h | h | ⟨i, hi, ⟨ds, e⟩, e2⟩
    · obtain ⟨xs, e⟩ := R.ox a h
      exact ⟨xs, s _ _ e⟩
    · rw [h]; exact ⟨acc, hD⟩
    · obtain ⟨b, us, e3, _, _, e4, _⟩ := R.own i ds e
      rw [e3] at e2; cases e2
      exact ⟨us, s _ _ e4⟩
  · obtain ⟨h1, h2⟩ := wipeE_some h (fun z => by cases z)
    obtain ⟨v, e1, e2⟩ := R.val i d h1
    exact ⟨v, by rw [wipe_out h2]; exact e1, up e2⟩
  · obtain ⟨h1, h2⟩ := wipeE_some h (fun z => by cases z)
    obtain ⟨a, us, e1, e2, e3, e4, e5⟩ := R.own i ds h1
    refine ⟨a, us, by rw [wipe_out h2]; exact e1, e2, fun z => ?_, s _ _ e4, ups e5⟩
    rcases z with z | z | ⟨j, hj, z⟩
    · exact e3 z
    · rw [z, hn] at e4; cases e4
    · exact h2 (by rw [R.dis i j a ⟨⟨ds, h1⟩, e1⟩ z]; exact hj)
end
theorem wipe_in {σ : Sg} {i : Nat} : ∀ {vs : List Nat}, i ∈ vs → (wipe σ vs)[i]? = if i < σ.length then some none else none
  | [], h => by cases h
  | v :: vs, h => by
    unfold wipe
    by_cases hv : v = i
    · subst hv
      split
      · rename_i hl; exact List.getElem?_set_self (by rw [wipe_length]; exact hl)
      · rename_i hl; exact List.getElem?_eq_none (by rw [List.length_set, wipe_length]; omega)
    · rw [List.getElem?_set_ne hv]
      rcases List.mem_cons.mp h with z | z
      · exact absurd z.symm hv
      · exact wipe_in z
theorem wipe_idem (σ : Sg) (vs : List Nat) : wipe (wipe σ vs) vs = wipe σ vs := by
  apply List.ext_getElem?
  intro i
  by_cases h : i ∈ vs
  · rw [wipe_in h, wipe_in h, wipe_length]
  · rw [wipe_out h]
section
variable {X : Cx}
theorem t_yes {env0 : En} : PTs X [] (tT X.K fun _ => some true) := ⟨fun pins s σ H Q I ⟨Ox, Hb, env, b, R, e, k⟩ => by
  cases e
  exact pts_nil.run pins s σ H Q I (k H (Same.refl H))⟩
theorem t_one {c : Expr} {f : En → Option Bool} (h : PT X c (tT X.K f)) : PTs X [c] (tT X.K f) := pts_one h
def cF (t : Tg) (vs : List Nat) (ls : List Nat) (fc : En → Option Bool) (fe : En → Option RV) (env : En) (x : D) : Option (Option D) :=
  (bind t x (wipeE (demote env ls) vs)).bind fun e2 => (fc e2).bind fun k => if k = true then (fe e2).map fun (y : RV) => some y.d else some none
theorem comp_core {ls lelt vs : List Nat} {t : Tg} {fc : En → Option Bool} {fe : En → Option RV} {wi : TI} {σ : Sg} {H H1 : Hp} {Q : VK} {J : It} {Ox : Addr → Prop} {Hb : Hp} {env : En} {its final : List D}
    (R1 : ER X.K Ox Hb H1 σ env) (hlen : its.length ≤ LIM) (e3 : compL (cF t vs ls fc fe env) its = some final) (hv : ∀ i ∈ tgSlots t, i ∈ vs) (G : Good X.K (Og false Ox σ env ls) H1 J its)
    (k : ∀ v H', Same H1 H' → RR X.K (Of Ox σ env (ls ++ lelt)) H1 H' v (.l final) → Q v H') (hw : ∀ Rk : It → Hp → Prop, Rk J H1 → wi σ H Rk) :
    tLc wi (tG X.K t) (tT X.K fc) (tE X.K fe lelt) vs σ H Q := by
  refine hw _ ?_
  intro D0 hD
  have Rd := R1.dem ls
  have olD : ∀ {H : Hp} {acc : List V}, Same H1 H → H D0 = some (.lst acc) → ∀ a, (Of Ox σ env (ls ++ lelt) a ∨ a = D0) → ∃ xs, H a = some (.lst xs) := fun {H acc} s e a z => by
    rcases z with z | z
    · obtain ⟨xs, q⟩ := R1.lst a z
      exact ⟨xs, s _ _ q⟩
    · rw [z]; exact ⟨acc, e⟩
  refine ⟨fun i m H => m = its.length - i ∧ i ≤ its.length ∧ Same H1 H ∧ ∃ acc ds, H D0 = some (.lst acc) ∧ Reps X.K (fun b => Of Ox σ env (ls ++ lelt) b ∨ b = D0) H acc ds ∧ ds.length ≤ i ∧ (compL (cF t vs ls fc fe env) (its.drop i)).map (ds ++ ·) = some final,
    ⟨its.length, by simp, Nat.zero_le _, same_new hD, [], [], upd_same, .nil, Nat.zero_le _, by rw [List.drop_zero, e3]; rfl⟩, ?_⟩
  rintro i m H2 ⟨rfl, hi, s2, acc, ds, hacc, hr, hdl, hc⟩
  by_cases hlt : i < its.length
  · have hget : its[i]? = some its[i] := List.getElem?_eq_getElem hlt
    refine .inr ⟨G.go i _ H2 s2 hget, fun H => (i + 1 ≤ its.length ∧ Same H1 H ∧ ∃ acc ds, H D0 = some (.lst acc) ∧ Reps X.K (fun b => Of Ox σ env (ls ++ lelt) b ∨ b = D0) H acc ds ∧ ds.length ≤ i + 1 ∧ (compL (cF t vs ls fc fe env) (its.drop (i + 1))).map (ds ++ ·) = some final), fun H' h' => ⟨its.length - (i + 1), by omega, rfl, h'⟩, fun x H3 hy => ?_⟩
    obtain ⟨s3, rep⟩ := G.yld i _ H2 x H3 s2 hget hy
    have hD3 : H3 D0 = some (.lst acc) := s3 _ _ hacc
    have Rb := blk_er (vs := vs) Rd hD (s2.trans s3) hD3
    -- one turn of the semantics
    have hdrop : its.drop i = its[i] :: its.drop (i + 1) := List.drop_eq_getElem_cons hlt
    rw [hdrop] at hc
    rw [compL] at hc
    obtain ⟨q0, c1, c2⟩ := Option.map_eq_some_iff.mp hc
    obtain ⟨o, c3, c4⟩ := Option.bind_eq_some_iff.mp c1
    obtain ⟨ys, c5, c6⟩ := Option.map_eq_some_iff.mp c4
    unfold cF at c3
    obtain ⟨env2, c7, c8⟩ := Option.bind_eq_some_iff.mp c3
    obtain ⟨kb, c9, c10⟩ := Option.bind_eq_some_iff.mp c8
    refine ⟨_, Hb, _, its[i], env2, Rb, rep _ (fun a z => ?_) (blk_er (vs := vs) Rd hD s2 hacc).lst, c7, fun σ2 w2 o2 R2 => ⟨(w2 vs hv).trans (wipe_idem σ vs), _, Hb, env2, kb, R2, c9, fun H4 s4 => ?_⟩⟩
    · rcases z with (z | z | ⟨j, hj, z⟩) | ⟨j, hj, z⟩
      · exact .inl (.inl z)
      · exact .inr (by rw [z]; exact hD)
      · exact .inl (.inr ⟨rfl, j, own_dem ls z⟩)
      · exact .inl (.inr ⟨rfl, j, own_dem ls (own_blk z).2⟩)
    · cases kb with
      | false =>
        rw [if_neg Bool.false_ne_true] at c10 ⊢
        cases c10
        refine ⟨hlt, (s2.trans s3).trans s4, acc, ds, s4 _ _ hD3, reps_ext (s3.trans s4) (olD s2 hacc) hr, by omega, ?_⟩
        rw [c5]
        rw [← c6] at c2
        exact congrArg some c2
      | true =>
        rw [if_pos rfl] at c10 ⊢
        obtain ⟨y, c11, rfl⟩ := Option.map_eq_some_iff.mp c10
        have R4 := R2.ext' s4
        refine ⟨_, Hb, env2, y, R4, c11, fun w H5 s5 rr => ⟨acc, s5 _ _ (s4 _ _ hD3), ?_, hlt, fun b ob q => ?_, acc ++ [w], ds ++ [y.d], upd_same, ?_, by rw [List.length_append]; exact Nat.add_le_add_right hdl 1, ?_⟩⟩
        · have := hr.length
          have hz := lim_le
          omega
        · rw [upd_ne (fun z => by rw [z, hD] at q; cases q)]
          exact s5 _ _ (s4 _ _ (s3 _ _ (s2 _ _ q)))
        · have S5 : Same H1 H5 := ((s2.trans s3).trans s4).trans s5
          have hD5 : H5 D0 = some (.lst acc) := s5 _ _ (s4 _ _ hD3)
          refine Reps.append ?_ (.cons ?_ .nil)
          · have h5 := reps_ext ((s3.trans s4).trans s5) (olD s2 hacc) hr
            exact Reps.mono (fun b o q n => by rw [upd_ne (fun z => n (.inr z))]; exact q) (olD S5 hD5) (fun b z => .inl z) ds acc h5
          · refine Rep.mono (fun b o q n => ?_) (R4.ext' s5).lst (fun b z => .inl ?_) _ w (rr.rep R4.lst (R4.ext' s5).lst)
            · rw [upd_ne (fun z => n (.inl (by rw [z]; exact .inr (.inl rfl))))]; exact q
            · rcases z with (z | ⟨j, nj, z⟩) | z
              · exact .inl (.inl z)
              · rw [List.mem_append, not_or] at nj
                have zd := dem_own ls nj.1 z
                by_cases hj : j ∈ vs
                · exact .inl (.inr (.inr ⟨j, hj, zd⟩))
                · refine .inr ⟨j, nj.2, ?_⟩
                  obtain ⟨⟨es, f1⟩, f2⟩ := blk_own (vs := vs) zd hj
                  refine ⟨⟨es, by rw [bind_out t c7 (fun z => hj (hv j z))]; exact f1⟩, ?_⟩
                  have w3 := w2 vs hv
                  have : (wipe σ2 vs)[j]? = (wipe (wipe σ vs) vs)[j]? := by rw [w3]
                  rw [wipe_out hj, wipe_out hj] at this
                  rw [this]; exact f2
              · rw [z]; exact .inl (.inr (.inl rfl))
        · rw [c5]
          rw [← c6] at c2
          rw [← c2]
          simp
  · have he : i = its.length := by omega
    subst he
    refine .inl ⟨G.stop _ H2 s2 (Nat.le_refl _), ?_⟩
    rw [List.drop_length] at hc
    have : some (ds ++ []) = some final := hc
    rw [List.append_nil] at this
    cases this
    exact k _ H2 s2 ⟨D0, acc, rfl, hD, hacc, hr⟩
theorem comp_red {elt tg iter : Expr} {ifs : List Expr} {own : List (Str × Nat)} {fs : En → Option (List D)} {ls lelt : List Nat} {t : Tg} {fc : En → Option Bool} {fe : En → Option RV} {wi : TI} {g : TG} {tt : TT} {te : TE} {σ : Sg} {H : Hp} {Q : VK}
    (ewi : wi = tI X.K false fs ls) (eg : g = tG X.K t) (ett : tt = tT X.K fc) (ete : te = tE X.K fe lelt) (hv : ∀ i ∈ tgSlots t, i ∈ own.map (·.2))
    (h : tE X.K (fun env => (fs env).bind fun its => if its.length ≤ LIM then (compL (cF t (own.map (·.2)) ls fc fe env) its).map .l else none) (ls ++ lelt) σ H Q) : tLc wi g tt te (own.map (·.2)) σ H Q := by
  subst ewi eg ett ete
  generalize own.map (·.2) = vs at hv h ⊢
  obtain ⟨Ox, Hb, env, r, R, e, k⟩ := h
  obtain ⟨its, e1, e2⟩ := Option.bind_eq_some_iff.mp e
  split at e2
  · rename_i hlen
    obtain ⟨final, e3, rfl⟩ := Option.map_eq_some_iff.mp e2
    refine ⟨Ox, Hb, env, its, R, e1, fun J H1 s1 G => ?_⟩
    have hno : notOwn (Pb false σ env ls) H1 = H1 := by
      funext a
      exact notOwn_no fun z => Bool.noConfusion z.1
    rw [hno] at G
    exact comp_core (wi := fun _ _ Rk => Rk J H1) (H := H1) (R.ext' s1) hlen e3 hv G (fun v H' s rr => k v H' (s1.trans s) (rr.back s1)) fun _ h => h
  · cases e2
theorem e_comp {elt tg iter : Expr} {ifs : List Expr} {scope : Scope} {own : List (Str × Nat)} {pos : Pos} {fs : En → Option (List D)} {ls lelt : List Nat} {t : Tg} {fc : En → Option Bool} {fe : En → Option RV}
    (hc : X.calm = true) (hN : X.N.Nodup) (hi : PI X tg iter (tI X.K false fs ls)) (ok : BlkOk X.N X.env.scope scope own)
    (hg : ∀ (s : Shared) (H : Hp) (C : Addr) (cl : List (Str × Addr)) (fp : List Addr), PG (X.blk s H scope (compEnvC scope cl C X.env) fp) tg (tG X.K t))
    (ht : ∀ (s : Shared) (H : Hp) (C : Addr) (cl : List (Str × Addr)) (fp : List Addr), PTs (X.blk s H scope (compEnvC scope cl C X.env) fp) ifs (tT X.K fc))
    (he : ∀ (s : Shared) (H : Hp) (C : Addr) (cl : List (Str × Addr)) (fp : List Addr), PE (X.blk s H scope (compEnvC scope cl C X.env) fp) elt (tE X.K fe lelt))
    (hs : ∀ x, foldedSetIterable iter X.env x = pure x) (hv : ∀ i ∈ tgSlots t, i ∈ own.map (·.2)) :
    PE X (.ListComp elt [⟨tg, iter, ifs, 0⟩] scope pos) (tE X.K (fun env => (fs env).bind fun its => if its.length ≤ LIM then (compL (cF t (own.map (·.2)) ls fc fe env) its).map .l else none) (ls ++ lelt)) :=
  pe_mono (pe_lc hc hN hi ok hg ht he hs) fun σ H Q h => comp_red (elt := elt) (tg := tg) (iter := iter) (ifs := ifs) rfl rfl rfl rfl hv h
end
def tR (K : PySem.W.Frag) (f : En → Option RV) (lk : List Nat) : TI := fun σ H R => ∃ Ox Hb env r its, ER K Ox Hb H σ env ∧ f env = some r ∧ rngS [r.d] = some its ∧ ∀ n H', its = rg 0 n → Same H H' → R (Itr 0 n) H'
section
variable {X : Cx}
theorem i_rngR {tg e : Expr} {f : En → Option RV} {lk : List Nat} {pos p : Pos} (hg : Gl X "range") (hm : X.mg "range" = none) (h : PE X e (tC X.K f lk)) (hs : isStar e = false) : PI X tg (.Call (.Name "range" p) [e] [] pos) (tR X.K f lk) := by
  refine ⟨fun pins s σ H R I ⟨Ox, Hb, env, r, its, E, e1, e2, k⟩ => ?_⟩
  refine (pi_range1 hg hm (ac_cons hs h ac_nil) (star_cons hs)).run pins s σ H R I ⟨Ox, Hb, env, [r.d], E, by show (f env).bind _ = _; rw [e1]; rfl, fun vs H1 s1 c1 => ?_⟩
  cases c1 with
  | cons c t =>
    cases t
    generalize r.d = d at e2 c
    cases d with
    | int j =>
      have e2 : (if j.natAbs < 2 ^ 62 then some (rg 0 j.toNat) else none) = some its := e2
      split at e2
      · rename_i hj
        cases e2
        cases (show Rep _ _ _ _ (.int j) from c)
        exact ⟨j, rfl, by omega, by omega, k _ H1 rfl s1⟩
      · cases e2
    | _ => cases e2
end
section
variable {K : PySem.W.Frag} {Ox : Addr → Prop} {Hb H H' : Hp} {σ : Sg} {env : En}
/-- the forbidden lists may change -/
theorem ER.move (R : ER K Ox Hb H σ env) (k : ∀ a o, H a = some o → ¬ Ox a → H' a = some o) (ox : ∀ a, Ox a → ∃ xs, H' a = some (.lst xs)) (eb : Same Hb H') : ER K Ox Hb H' σ env where
  len := R.len
  ext := eb
  ox := ox
  val := fun i d e => let ⟨v, e1, r⟩ := R.val i d e; ⟨v, e1, Rep.mono (fun a o q n => k a o q fun z => n (.inl z)) R.lst (fun _ z => .inl z) d v r⟩
  own := fun i ds e => let ⟨a, vs, e1, e2, e3, e4, r⟩ := R.own i ds e; ⟨a, vs, e1, e2, e3, k _ _ e4 e3, Reps.mono (fun a o q n => k a o q fun z => n (.inl z)) R.lst (fun _ z => .inl z) ds vs r⟩
  dis := R.dis
theorem ER.wiped (R : ER K Ox Hb H σ env) : ∀ vs : List Nat, ER K Ox Hb H (wipe σ vs) (wipeE env vs)
  | [] => R
  | v :: vs => by
    have h := R.wiped vs
    show ER K Ox Hb H ((wipe σ vs).set v none) ((wipeE env vs).set v .no)
    by_cases hl : v < (wipeE env vs).length
    · exact h.drop hl
    · rw [List.set_eq_of_length_le (by rw [h.len]; omega), List.set_eq_of_length_le (by omega)]
      exact h
end
def cF2 (t : Tg) (vs ls : List Nat) (t1 : Tg) (vs1 : List Nat) (f1 fe : En → Option RV) (env : En) (x : D) : Option (List D) :=
  (bind t x (wipeE (demote env ls) vs)).bind fun e2 => (f1 e2).bind fun z => (rngS [z.d]).bind fun its1 =>
    if its1.length ≤ LIM then compL (fun y => (bind t1 y (wipeE e2 vs1)).bind fun e3 => (fe e3).map fun (y : RV) => some y.d) its1 else none
section
variable {X : Cx}
theorem comp2_core {ls lelt l1 vs vs1 : List Nat} {t t1 : Tg} {f1 fe : En → Option RV} {wi : TI} {σ : Sg} {H H1 : Hp} {Q : VK} {J : It} {Ox : Addr → Prop} {Hb : Hp} {env : En} {its final : List D}
    (R1 : ER X.K Ox Hb H1 σ env) (e3 : catL (cF2 t vs ls t1 vs1 f1 fe env) its = some final) (hfl : final.length ≤ LIM) (hv : ∀ i ∈ tgSlots t, i ∈ vs) (hv1 : ∀ i ∈ tgSlots t1, i ∈ vs1) (hvv : ∀ i ∈ vs1, i ∈ vs) (G : Good X.K (Og false Ox σ env ls) H1 J its)
    (k : ∀ v H', Same H1 H' → RR X.K (Of Ox σ env (ls ++ lelt)) H1 H' v (.l final) → Q v H') (hw : ∀ Rk : It → Hp → Prop, Rk J H1 → wi σ H Rk) :
    tLc2 wi (tG X.K t) (tT X.K fun _ => some true) (tR X.K f1 l1) (tG X.K t1) (tT X.K fun _ => some true) (tE X.K fe lelt) vs vs1 σ H Q := by
  refine hw _ ?_
  intro D0 hD
  have Rd := R1.dem ls
  -- what stands in the new list so far
  let OO : Addr → Prop := fun b => Of Ox σ env (ls ++ lelt) b ∨ b = D0
  have olD : ∀ {H : Hp} {acc : List V}, Same H1 H → H D0 = some (.lst acc) → ∀ a, OO a → ∃ xs, H a = some (.lst xs) := fun {H acc} s e a z => by
    rcases z with z | z
    · obtain ⟨xs, q⟩ := R1.lst a z
      exact ⟨xs, s _ _ q⟩
    · rw [z]; exact ⟨acc, e⟩
  refine ⟨fun i m H => m = its.length - i ∧ i ≤ its.length ∧ Same H1 H ∧ ∃ acc ds rest, H D0 = some (.lst acc) ∧ Reps X.K OO H acc ds ∧ catL (cF2 t vs ls t1 vs1 f1 fe env) (its.drop i) = some rest ∧ ds ++ rest = final,
    ⟨its.length, by simp, Nat.zero_le _, same_new hD, [], [], final, upd_same, .nil, by rw [List.drop_zero]; exact e3, rfl⟩, ?_⟩
  rintro i m H2 ⟨rfl, hi, s2, acc, ds, rest, hacc, hr, hc, hfin⟩
  by_cases hlt : i < its.length
  · have hget : its[i]? = some its[i] := List.getElem?_eq_getElem hlt
    refine .inr ⟨G.go i _ H2 s2 hget, fun H => i + 1 ≤ its.length ∧ Same H1 H ∧ ∃ acc ds rest, H D0 = some (.lst acc) ∧ Reps X.K OO H acc ds ∧ catL (cF2 t vs ls t1 vs1 f1 fe env) (its.drop (i + 1)) = some rest ∧ ds ++ rest = final,
      fun H' h => ⟨its.length - (i + 1), by omega, rfl, h⟩, fun x H3 hy => ?_⟩
    obtain ⟨s3, rep⟩ := G.yld i _ H2 x H3 s2 hget hy
    have hD3 : H3 D0 = some (.lst acc) := s3 _ _ hacc
    have Rb := blk_er (vs := vs) Rd hD (s2.trans s3) hD3
    rw [List.drop_eq_getElem_cons hlt, catL] at hc
    obtain ⟨ys, c1, c2⟩ := Option.bind_eq_some_iff.mp hc
    obtain ⟨rest', c3, rfl⟩ := Option.map_eq_some_iff.mp c2
    unfold cF2 at c1
    obtain ⟨env2, c7, c8⟩ := Option.bind_eq_some_iff.mp c1
    obtain ⟨z, c9, c10⟩ := Option.bind_eq_some_iff.mp c8
    obtain ⟨its1, c11, c12⟩ := Option.bind_eq_some_iff.mp c10
    split at c12
    case isFalse => cases c12
    refine ⟨_, Hb, _, its[i], env2, Rb, rep _ (fun a z => ?_) (blk_er (vs := vs) Rd hD s2 hacc).lst, c7, fun σ2 w2 o2 R2 => ⟨(w2 vs hv).trans (wipe_idem σ vs), _, Hb, env2, true, R2, rfl, fun H4 s4 => ?_⟩⟩
    · rcases z with (z | z | ⟨j, hj, z⟩) | ⟨j, hj, z⟩
      · exact .inl (.inl z)
      · exact .inr (by rw [z]; exact hD)
      · exact .inl (.inr ⟨rfl, j, own_dem ls z⟩)
      · exact .inl (.inr ⟨rfl, j, own_dem ls (own_blk z).2⟩)
    dsimp only
    rw [if_pos rfl]
    have R4 := R2.ext' s4
    refine ⟨_, Hb, env2, z, its1, R4, c9, c11, fun n H5 en s5 => ?_⟩
    have R5 := R4.ext' s5
    have S5 : Same H1 H5 := ((s2.trans s3).trans s4).trans s5
    have hD5 : H5 D0 = some (.lst acc) := s5 _ _ (s4 _ _ hD3)
    have G1 : Good X.K (fun _ => False) (fun _ => none) (Itr 0 n) its1 := by rw [en]; exact good_rng 0 n
    have nb : Hb D0 = none := R1.ext.free hD
    refine ⟨fun j k H => k = its1.length - j ∧ j ≤ its1.length ∧ (∀ a o, H5 a = some o → a ≠ D0 → H a = some o) ∧ ∃ acc ds rest1, H D0 = some (.lst acc) ∧ Reps X.K OO H acc ds ∧ compL (fun y => (bind t1 y (wipeE env2 vs1)).bind fun e3 => (fe e3).map fun (y : RV) => some y.d) (its1.drop j) = some rest1 ∧ ds ++ rest1 ++ rest' = final,
      ⟨its1.length, by simp, Nat.zero_le _, fun a o e _ => e, acc, ds, ys, hD5, reps_ext ((s3.trans s4).trans s5) (olD s2 hacc) hr, by rw [List.drop_zero]; exact c12, by rw [List.append_assoc]; exact hfin⟩, ?_⟩
    rintro j kk H6 ⟨rfl, hj, s6, acc6, ds6, rest6, hD6, hr6, hc6, hf6⟩
    have S6 : Same H1 H6 := fun a o e => s6 a o (S5 a o e) fun z => by rw [z, hD] at e; cases e
    by_cases hlt1 : j < its1.length
    · have hget1 : its1[j]? = some its1[j] := List.getElem?_eq_getElem hlt1
      refine .inr ⟨G1.go j _ H6 (fun _ _ e => by cases e) hget1, fun H => j + 1 ≤ its1.length ∧ (∀ a o, H5 a = some o → a ≠ D0 → H a = some o) ∧ ∃ acc ds rest1, H D0 = some (.lst acc) ∧ Reps X.K OO H acc ds ∧ compL (fun y => (bind t1 y (wipeE env2 vs1)).bind fun e3 => (fe e3).map fun (y : RV) => some y.d) (its1.drop (j + 1)) = some rest1 ∧ ds ++ rest1 ++ rest' = final,
        fun H' h => ⟨its1.length - (j + 1), by omega, rfl, h⟩, fun x7 H7 hy7 => ?_⟩
      obtain ⟨s7, rep7⟩ := G1.yld j _ H6 x7 H7 (fun _ _ e => by cases e) hget1 hy7
      have hD7 : H7 D0 = some (.lst acc6) := s7 _ _ hD6
      have k7 : ∀ a o, H5 a = some o → a ≠ D0 → H7 a = some o := fun a o e n => s7 _ _ (s6 a o e n)
      have R6 : ER X.K (Oxb Ox σ (demote env ls) vs D0) Hb H6 σ2 env2 := R5.move (fun a o e n => s6 a o e fun z => n (by rw [z]; exact .inr (.inl rfl))) (fun a q => by
        by_cases z : a = D0
        · rw [z]; exact ⟨acc6, hD6⟩
        · obtain ⟨xs, e⟩ := R5.ox a q
          exact ⟨xs, s6 a _ e z⟩) (R1.ext.trans S6)
      have R7 := R6.ext' s7
      have R6w := R6.wiped vs1
      have R7w := R7.wiped vs1
      rw [List.drop_eq_getElem_cons hlt1, compL] at hc6
      obtain ⟨q0, d1, d2⟩ := Option.bind_eq_some_iff.mp hc6
      obtain ⟨rest7, d5, d6⟩ := Option.map_eq_some_iff.mp d2
      obtain ⟨env3, d7, d8⟩ := Option.bind_eq_some_iff.mp d1
      obtain ⟨y, d9, rfl⟩ := Option.map_eq_some_iff.mp d8
      have d6 : y.d :: rest7 = rest6 := d6
      refine ⟨_, Hb, _, its1[j], env3, R7w, rep7 _ (fun a z => .inr rfl) R6w.lst, d7, fun σ3 w3 o3 R3 => ⟨(w3 vs1 hv1).trans (wipe_idem σ2 vs1), _, Hb, env3, true, R3, rfl, fun H8 s8 => ?_⟩⟩
      dsimp only
      rw [if_pos rfl]
      have R8 := R3.ext' s8
      refine ⟨_, Hb, env3, y, R8, d9, fun w H9 s9 rr => ⟨acc6, s9 _ _ (s8 _ _ hD7), ?_, hlt1, fun a o q n => ?_, acc6 ++ [w], ds6 ++ [y.d], rest7, upd_same, ?_, d5, ?_⟩⟩
      · have h1 := hr6.length
        have h2 : (ds6 ++ rest6 ++ rest').length = final.length := by rw [hf6]
        rw [← d6] at h2
        simp only [List.length_append, List.length_cons] at h2
        have hz := lim_le
        omega
      · rw [upd_ne n]
        exact s9 _ _ (s8 _ _ (k7 a o q n))
      · have S9 : Same H1 H9 := ((S6.trans s7).trans s8).trans s9
        have hD9 : H9 D0 = some (.lst acc6) := s9 _ _ (s8 _ _ hD7)
        refine Reps.append ?_ (.cons ?_ .nil)
        · have h5 := reps_ext ((s7.trans s8).trans s9) (olD S6 hD6) hr6
          exact Reps.mono (fun b o q n => by rw [upd_ne (fun z => n (.inr z))]; exact q) (olD S9 hD9) (fun b z => .inl z) ds6 acc6 h5
        · refine Rep.mono (fun b o q n => ?_) (R8.ext' s9).lst (fun b z => .inl ?_) _ w (rr.rep R8.lst (R8.ext' s9).lst)
          · rw [upd_ne (fun z => n (.inl (by rw [z]; exact .inr (.inl rfl))))]; exact q
          · rcases z with (z | ⟨i', ni, z⟩) | z
            · exact .inl (.inl z)
            · rw [List.mem_append, not_or] at ni
              have zd := dem_own ls ni.1 z
              by_cases hi' : i' ∈ vs
              · exact .inl (.inr (.inr ⟨i', hi', zd⟩))
              · have hi1 : i' ∉ vs1 := fun q => hi' (hvv i' q)
                refine .inr ⟨i', ni.2, ?_⟩
                obtain ⟨⟨es, g1⟩, g2⟩ := blk_own (vs := vs) zd hi'
                have e2' : env2[i']? = some (.own es) := by rw [bind_out t c7 (fun q => hi' (hv i' q))]; exact g1
                have s2' : σ2[i']? = some (some (.ref b)) := by
                  have w2' := w2 vs hv
                  have : (wipe σ2 vs)[i']? = (wipe (wipe σ vs) vs)[i']? := by rw [w2']
                  rw [wipe_out hi', wipe_out hi'] at this
                  rw [this]; exact g2
                obtain ⟨⟨es', g3⟩, g4⟩ := blk_own (vs := vs1) (σ := σ2) (env := env2) ⟨⟨es, e2'⟩, s2'⟩ hi1
                refine ⟨⟨es', by rw [bind_out t1 d7 (fun q => hi1 (hv1 i' q))]; exact g3⟩, ?_⟩
                have w3' := w3 vs1 hv1
                have : (wipe σ3 vs1)[i']? = (wipe (wipe σ2 vs1) vs1)[i']? := by rw [w3']
                rw [wipe_out hi1, wipe_out hi1] at this
                rw [this]; exact g4
            · rw [z]; exact .inl (.inr (.inl rfl))
      · rw [← hf6, ← d6]
        simp
    · have he : j = its1.length := by omega
      subst he
      refine .inl ⟨G1.stop _ H6 (fun _ _ e => by cases e) (Nat.le_refl _), hlt, S6, acc6, ds6, rest', hD6, hr6, c3, ?_⟩
      rw [List.drop_length] at hc6
      cases (show some [] = some rest6 from hc6)
      rw [List.append_nil] at hf6
      exact hf6
  · have he : i = its.length := by omega
    subst he
    refine .inl ⟨G.stop _ H2 s2 (Nat.le_refl _), ?_⟩
    rw [List.drop_length] at hc
    cases (show some [] = some rest from hc)
    rw [List.append_nil] at hfin
    subst hfin
    exact k _ H2 s2 ⟨D0, acc, rfl, hD, hacc, hr⟩
theorem comp2_red {own : List (Str × Nat)} {vs1 : List Nat} {fs : En → Option (List D)} {f1 fe : En → Option RV} {ls l1 lelt : List Nat} {t t1 : Tg} {σ : Sg} {H : Hp} {Q : VK} (hvv : ∀ i ∈ vs1, i ∈ own.map (·.2)) (hv : ∀ i ∈ tgSlots t, i ∈ own.map (·.2)) (hv1 : ∀ i ∈ tgSlots t1, i ∈ vs1)
    (h : tE X.K (fun env => (fs env).bind fun its => if its.length ≤ LIM then (catL (cF2 t (own.map (·.2)) ls t1 vs1 f1 fe env) its).bind fun fin => if fin.length ≤ LIM then some (.l fin) else none else none) (ls ++ lelt) σ H Q) :
    tLc2 (tI X.K false fs ls) (tG X.K t) (tT X.K fun _ => some true) (tR X.K f1 l1) (tG X.K t1) (tT X.K fun _ => some true) (tE X.K fe lelt) (own.map (·.2)) vs1 σ H Q := by
  obtain ⟨Ox, Hb, env, r, R, e, k⟩ := h
  obtain ⟨its, e1, e2⟩ := Option.bind_eq_some_iff.mp e
  split at e2
  case isFalse => cases e2
  obtain ⟨fin, e3, e4⟩ := Option.bind_eq_some_iff.mp e2
  split at e4
  case isFalse => cases e4
  rename_i hlen hfl
  cases e4
  refine ⟨Ox, Hb, env, its, R, e1, fun J H1 s1 G => ?_⟩
  rw [show notOwn (Pb false σ env ls) H1 = H1 from funext fun a => notOwn_no fun z => Bool.noConfusion z.1] at G
  exact comp2_core (wi := fun _ _ Rk => Rk J H1) (H := H1) (R.ext' s1) e3 hfl hv hv1 hvv G (fun v H' s rr => k v H' (s1.trans s) (rr.back s1)) fun _ h => h
theorem e_comp2 {elt tg iter tg1 iter1 : Expr} {scope : Scope} {own : List (Str × Nat)} {vs1 : List Nat} {pos : Pos} {fs : En → Option (List D)} {f1 fe : En → Option RV} {ls l1 lelt : List Nat} {t t1 : Tg}
    (hc : X.calm = true) (hN : X.N.Nodup) (hi : PI X tg iter (tI X.K false fs ls)) (ok : BlkOk X.N X.env.scope scope own) (hvv : ∀ i ∈ vs1, i ∈ own.map (·.2))
    (hg : ∀ (s : Shared) (H : Hp) (C : Addr) (cl : List (Str × Addr)) (fp : List Addr), PG (X.blk s H scope (compEnvC scope cl C X.env) fp) tg (tG X.K t))
    (hi1 : ∀ (s : Shared) (H : Hp) (C : Addr) (cl : List (Str × Addr)) (fp : List Addr), PI (X.blk s H scope (compEnvC scope cl C X.env) fp) tg1 iter1 (tR X.K f1 l1))
    (hg1 : ∀ (s : Shared) (H : Hp) (C : Addr) (cl : List (Str × Addr)) (fp : List Addr), PG (X.blk s H scope (compEnvC scope cl C X.env) fp) tg1 (tG X.K t1))
    (he : ∀ (s : Shared) (H : Hp) (C : Addr) (cl : List (Str × Addr)) (fp : List Addr), PE (X.blk s H scope (compEnvC scope cl C X.env) fp) elt (tE X.K fe lelt))
    (hs : ∀ x, foldedSetIterable iter X.env x = pure x) (hs1 : ∀ env x, foldedSetIterable iter1 env x = pure x) (hv : ∀ i ∈ tgSlots t, i ∈ own.map (·.2)) (hv1 : ∀ i ∈ tgSlots t1, i ∈ vs1) :
    PE X (.ListComp elt [⟨tg, iter, [], 0⟩, ⟨tg1, iter1, [], 0⟩] scope pos) (tE X.K (fun env => (fs env).bind fun its => if its.length ≤ LIM then (catL (cF2 t (own.map (·.2)) ls t1 vs1 f1 fe env) its).bind fun fin => if fin.length ≤ LIM then some (.l fin) else none else none) (ls ++ lelt)) := by
  exact pe_mono (pe_lc2 (tt := tT X.K fun _ => some true) (tt1 := tT X.K fun _ => some true) hc hN hi ok hvv hg (fun s H C cl fp => t_yes (X := X.blk s H scope (compEnvC scope cl C X.env) fp) (env0 := [])) hi1 hg1 (fun s H C cl fp => t_yes (X := X.blk s H scope (compEnvC scope cl C X.env) fp) (env0 := [])) he hs hs1) fun σ H Q h => comp2_red hvv hv hv1 h
end

theorem dist_snoc (ms : List Int) (c : Int) : dist (ms ++ [c]) = if c ∈ dist ms then dist ms else dist ms ++ [c] := by
  unfold dist
  rw [List.foldl_append]; rfl
theorem dist_mem {ms : List Int} {c j : Int} : (decide (j ∈ dist ms) || decide (j = c)) = decide (j ∈ dist (ms ++ [c])) := by
  rw [dist_snoc]
  by_cases h : c ∈ dist ms
  · rw [if_pos h]
    by_cases z : j = c
    · subst z; simp [h]
    · simp [z]
  · rw [if_neg h]
    by_cases z : j ∈ dist ms <;> by_cases w : j = c <;> simp [z, w]
theorem dist_step (ms : List Int) (c : Int) : (dist (ms ++ [c])).length = if decide (c ∈ dist ms) = true then (dist ms).length else (dist ms).length + 1 := by
  rw [dist_snoc]
  by_cases h : c ∈ dist ms
  · rw [if_pos h, if_pos (decide_eq_true h)]
  · rw [if_neg h, if_neg (by simpa using h), List.length_append]; rfl
theorem dist_le (ms : List Int) : ∀ ks : List Int, (dist ms).length ≤ (dist (ms ++ ks)).length
  | [] => by rw [List.append_nil]; exact Nat.le_refl _
  | c :: ks => by
    have h1 := dist_step ms c
    have h2 := dist_le (ms ++ [c]) ks
    rw [List.append_assoc] at h2
    have h2 : (dist (ms ++ [c])).length ≤ (dist (ms ++ c :: ks)).length := h2
    split at h1 <;> omega
section
variable {X : Cx}
def tSl (w : World) (wi : TI) (g : TG) (te : TE) (vs : List Nat) : TE := fun σ H Q => wi σ H fun J H1 => ∀ D, H1 D = none → ∃ Z : Nat → Nat → Hp → Prop, (∃ m, Z 0 m (upd H1 D (SetO w D (fun _ => false) 0))) ∧ ∀ i m H2, Z i m H2 →
  (J.stop i H2 ∧ Q (.ref D) H2) ∨ (J.go i H2 ∧ ∃ Nx : Hp → Prop, (∀ H3, Nx H3 → ∃ m2, m2 < m ∧ Z (i + 1) m2 H3) ∧ ∀ x H3, J.yld i H2 x H3 → g x (wipe σ vs) H3 fun σ2 H4 => wipe σ2 vs = wipe σ vs ∧
    te σ2 H4 fun y H5 => ∃ c S n, y = .int c ∧ H5 D = some (SetO w D S n) ∧ n + 1 < scanBound ∧ Nx (upd H5 D (SetO w D (fun j => S j || decide (j = c)) (if S c = true then n else n + 1))))
/-- the block of a set comprehension over whole numbers -/
theorem slen_blk {pins : List (Addr × Obj)} {u : Shared} {σ : Sg} {H : Hp} {Q : VK} {elt tg iter : Expr} {scope : Scope} {own : List (Str × Nat)} {pos : Pos} {wi : TI} {g : TG} {te : TE} (hc : X.calm = true) (nd : X.N.Nodup) (I : Inv X pins σ H u) (hi : PI X tg iter wi) (bk : BlkOk X.N X.env.scope scope own)
    (hg : ∀ (s : Shared) (H : Hp) (C : Addr) (cl : List (Str × Addr)) (fp : List Addr), PG (X.blk s H scope (compEnvC scope cl C X.env) fp) tg g)
    (he : ∀ (s : Shared) (H : Hp) (C : Addr) (cl : List (Str × Addr)) (fp : List Addr), PE (X.blk s H scope (compEnvC scope cl C X.env) fp) elt te)
    (nf : ∀ x, foldedSetIterable iter X.env x = pure x) (h : tSl X.w wi g te (own.map (·.2)) σ H Q) :
    wpAny (model X.prog X.w) X.A (eval (.SetComp elt [⟨tg, iter, [], 0⟩] scope pos) X.env) (EP X pins σ Q) X.xe u := by
  rw [PpSet.eval_SetComp]
  show wpAny _ _ (comprehension (.SetComp elt [⟨tg, iter, [], 0⟩] scope pos) scope X.env (firstIterPos [⟨tg, iter, [], 0⟩] pos) (newSet (.type "set")) false (eval iter X.env)) _ _ _
  have fr : ∀ y ∈ scope.names, y.2 = .free → ∃ c, X.env.cells.lookup y.1 = some c := fun y hy e => I.ok.has _ (bk.free y hy e)
  refine wpAny_comprehension_free (use := none) rfl nf (closure_ok fr) bk.kind (fun y hy e => by rw [bk.uniq y hy, e]) ?_
  refine thn (hi.run pins u σ H _ I h) fun _ u1 a1 => thn a1 fun _ u2 a2 => ?_
  obtain ⟨it, ws, tn, J, H1, rfl, I1, T, t0, fz, q⟩ := a2
  refine PpSet.newSet_ok (newEnv_comp ?_)
  have fresh : H1 u2.heap.objs.size = none := I1.hok.fresh (Nat.le_refl _)
  obtain ⟨Z, ⟨m0, z0⟩, turn⟩ := q _ fresh
  -- the set stands behind all that was there
  let D := u2.heap.objs.size
  let u3 : Shared := { u2 with heap := u2.heap.push { cls := .type "set", dict := none, data := .set #[] 0 (.fresh 0 0 (!X.w.params.followText "set-order")) } }
  let H3 : Hp := upd H1 D (SetO X.w D (fun _ => false) 0)
  have more : ∀ b o, u2.heap.get? b = some o → u3.heap.get? b = some o := fun b o e => Heap.get?_push_of_some _ e
  have I3 : Inv X pins σ H3 u3 := I1.laid (t' := u2.toks) more (Nat.le_refl _) (setO_new (setR_fresh X.w))
  have low : ∀ b ∈ ws, b < D := fun b hb => let ⟨_, e, _⟩ := T.obj _ _ t0 b hb; Heap.lt_size e
  have wsk : ∀ b ∈ ws, FpOk X pins H3 b ∧ b < u3.heap.objs.size := fun b hb =>
    ⟨⟨by show upd H1 D _ b = none; rw [upd_ne (Nat.ne_of_lt (low b hb))]; exact (fz b hb).1, (fz b hb).2⟩, by show b < (u2.heap.push _).objs.size; rw [Heap.size_push]; exact Nat.lt_succ_of_lt (low b hb)⟩
  have t3 : tn 0 u3.heap := T.keep _ _ _ t0 fun b _ o e => more b o e
  have I4 := block_start I3 bk nd wsk
  obtain ⟨cl, hcl⟩ : ∃ cl, cl = cellsFrom (u3.heap.objs.size + 1) scope.names (cloFrom X.env.cells scope.names []) := ⟨_, rfl⟩
  have pg := hg u3 H3 u3.heap.objs.size cl ws
  have pe := he u3 H3 u3.heap.objs.size cl ws
  rw [← hcl] at I4
  show codeAny _ _ (.compStart (.SetComp elt [⟨tg, iter, [], 0⟩] scope pos) 0 (.ref it) (.ref D) (compEnvC scope (cellsFrom (u3.heap.objs.size + 1) scope.names (cloFrom X.env.cells scope.names [])) u3.heap.objs.size X.env))
    (compPost (model X.prog X.w) X.A X.xe none (EP X pins σ Q) (.ref D) u3.heap.objs.size) { u3 with heap := pushCells (u3.heap.push { cls := .type "dict", data := .dict #[] }) scope.names }
  rw [← hcl]
  generalize hce : compEnvC scope cl u3.heap.objs.size X.env = ce at I4 pg pe ⊢
  have cL : ce.locals = u3.heap.objs.size := by rw [← hce]; rfl
  have t4 : tn 0 (pushCells (u3.heap.push { cls := .type "dict", data := .dict #[] }) scope.names) := T.keep _ _ _ t3 fun b _ o e => pushCells_keeps _ _ _ _ (Heap.get?_push_of_some _ e)
  let B : Cx := X.blk u3 H3 scope ce ws
  have quiet : ∀ {τ : Sg} {G : Hp} {s : Shared}, Inv B [] τ G s → (∀ b ∈ ws, G b = none) → ∀ b ∈ ws, FpOk B [] G b := fun {τ G s} J hn b hb =>
    have e := J.ok.exf b hb
    ⟨hn b hb, e.1, J.ok.exfs b hb, .inl hb, e.2, fun p hp => by cases hp⟩
  have loop : codeAny (model X.prog X.w) X.A (.compLoop (.SetComp elt [⟨tg, iter, [], 0⟩] scope pos) 0 (.ref it) (.ref D) ce) (compPost (model X.prog X.w) X.A X.xe none (EP X pins σ Q) (.ref D) u3.heap.objs.size)
      { u3 with heap := pushCells (u3.heap.push { cls := .type "dict", data := .dict #[] }) scope.names } := by
    refine PpSet.compLoopS_any (fun n s => ∃ i G, Inv B [] (wipe σ (own.map (·.2))) G s ∧ tn i s.heap ∧ (∀ b ∈ ws, G b = none) ∧ Z i n G) ?_ m0 ⟨0, H3, I4, t4, fun b hb => (wsk b hb).1.1, z0⟩
    rintro n s ⟨i, G, IG, tG', nG, zG⟩
    rcases turn i n G zG with ⟨fin, qf⟩ | ⟨go, Nx, nx, step⟩
    · refine thnF (T.done B rfl rfl rfl hc i [] s _ G (fun _ _ => False) IG (quiet IG nG) tG' fin) fun r s2 ⟨hr, I2⟩ => ?_
      subst hr
      have back : Inv X pins σ G s2 := I3.call' (ch := ws) I2.os I2.base I2.hok I2.bare fun b hb =>
        let w := (wsk b hb).1
        ⟨w.2.2.2.1, w.2.1, w.2.2.2.2.1, w.2.2.2.2.2⟩
      have free : G u3.heap.objs.size = none := by rw [← cL]; exact I2.free
      obtain ⟨m, hm, _⟩ := I2.loc
      obtain ⟨f0, f1, f2, f3, f4, f5⟩ := I3.fpOk (Nat.le_refl _) free
      exact ⟨m, by rw [← cL]; exact hm, fun h2 sb => ⟨.ref D, G, back.turned (t' := s2.toks) (fun b o hb e => (sb.2 b hb).trans e) f0 f1 f3 f4 f5, rfl, qf⟩⟩
    · refine thnF (T.item B rfl rfl rfl hc i [] s _ G (fun _ _ => False) IG (quiet IG nG) tG' go) fun r s2 ⟨v, hr, h2⟩ => ?_
      subst hr
      refine thnF h2 fun _ s3 ⟨x, G3, J3, rx, yx, t5, n5⟩ => ?_
      have J3p := J3.pinned (quiet J3 n5) (T.obj _ _ t5)
      refine thnF (pg.run _ s3 _ G3 x v _ J3p rx (step x G3 yx)) fun _ s4 ⟨τ, G4, J4, hw, q4⟩ => ?_
      simp only [List.forIn_nil]
      refine wpAny_pure ?_
      rw [if_pos rfl]
      refine thnF (pe.run _ s4 τ G4 _ J4 q4) fun y s5 ⟨yv, G5, J5, ry, c, S, k, ey, hS, room, hn⟩ => ?_
      subst ey
      refine thnF (mt_sadd (X := B) _ s5 τ G5 (.ref D) [.int c] (.ref D) [y] (fun _ G7 => Nx G7) J5 rfl (.cons ry .nil) ⟨D, c, S, k, rfl, rfl, hS, room, hn⟩) fun _ s6 ⟨_, G6, J6, _, n6⟩ => ?_
      obtain ⟨m2, lt, z2⟩ := nx G6 n6
      have held : ∀ b ∈ ws, ∀ o, s3.heap.get? b = some o → s6.heap.get? b = some o ∧ G6 b = none := fun b hb o e =>
        have p := J6.pin (b, o) (List.mem_append_right _ (List.mem_append_right _ (mem_pinsAt hb e)))
        ⟨p.1, p.2.1⟩
      have len : (wipe σ (own.map (·.2))).length = τ.length := by rw [← hw, wipe_length]
      refine ⟨m2, lt, i + 1, G6, (J6.unpinned (pins := [])).weak len (fun j w e => (wipe_some (by rw [← hw] at e; exact e)).1), T.keep _ _ _ t5 fun b hb o e => (held b hb o e).1, fun b hb => ?_, z2⟩
      obtain ⟨o, e, _⟩ := T.obj _ _ t5 b hb
      exact (held b hb o e).2
  exact PpSet.codeAny_compStart_set loop (T.self X.A 0 _ _ _ t4 loop)
end
section
variable {X : Cx}
theorem slen_core {ls lelt vs : List Nat} {t : Tg} {fe : En → Option RV} {wi : TI} {σ : Sg} {H H1 : Hp} {Q : VK} {J : It} {Ox : Addr → Prop} {Hb : Hp} {env : En} {its ys : List D} {ns : List Int}
    (R1 : ER X.K Ox Hb H1 σ env) (e3 : compL (cF t vs ls (fun _ => some true) fe env) its = some ys) (e4 : intsD ys = some ns) (e5 : (dist ns).length ≤ 4000) (hv : ∀ i ∈ tgSlots t, i ∈ vs) (G : Good X.K (Og false Ox σ env ls) H1 J its)
    (k : ∀ p S H', Same H1 H' → H' p = some (SetO X.w p S (dist ns).length) → Q (.ref p) H') (hw : ∀ Rk : It → Hp → Prop, Rk J H1 → wi σ H Rk) : tSl X.w wi (tG X.K t) (tE X.K fe lelt) vs σ H Q := by
  refine hw _ ?_
  intro D0 hD
  have Rd := R1.dem ls
  have st0 : SetO X.w D0 (fun _ => false) 0 = SetO X.w D0 (fun j => decide (j ∈ dist [])) (dist []).length := by
    have z : (fun j => decide (j ∈ dist [])) = fun _ => false := by
      funext j
      exact decide_eq_false (by unfold dist; simp)
    rw [z]; rfl
  refine ⟨fun i m H2 => m = its.length - i ∧ i ≤ its.length ∧ Same H1 H2 ∧ ∃ ms ks rest, H2 D0 = some (SetO X.w D0 (fun j => decide (j ∈ dist ms)) (dist ms).length) ∧ compL (cF t vs ls (fun _ => some true) fe env) (its.drop i) = some rest ∧ intsD rest = some ks ∧ ms ++ ks = ns,
    ⟨its.length, by simp, Nat.zero_le _, same_new hD, [], ns, ys, by rw [upd_same, st0], by rw [List.drop_zero]; exact e3, e4, rfl⟩, ?_⟩
  rintro i m H2 ⟨rfl, hi, s2, ms, ks, rest, hS, hc, hk, hn⟩
  by_cases hlt : i < its.length
  · have hget : its[i]? = some its[i] := List.getElem?_eq_getElem hlt
    refine .inr ⟨G.go i _ H2 s2 hget, fun H3 => i + 1 ≤ its.length ∧ Same H1 H3 ∧ ∃ ms ks rest, H3 D0 = some (SetO X.w D0 (fun j => decide (j ∈ dist ms)) (dist ms).length) ∧ compL (cF t vs ls (fun _ => some true) fe env) (its.drop (i + 1)) = some rest ∧ intsD rest = some ks ∧ ms ++ ks = ns,
      fun H' h => ⟨its.length - (i + 1), by omega, rfl, h⟩, fun x H3 hy => ?_⟩
    obtain ⟨s3, rep⟩ := G.yld i _ H2 x H3 s2 hget hy
    rw [List.drop_eq_getElem_cons hlt, compL] at hc
    obtain ⟨o, c3, c4⟩ := Option.bind_eq_some_iff.mp hc
    obtain ⟨zs, c5, c6⟩ := Option.map_eq_some_iff.mp c4
    unfold cF at c3
    obtain ⟨env2, c7, c8⟩ := Option.bind_eq_some_iff.mp c3
    have c8 : (fe env2).map (fun (y : RV) => some y.d) = some o := c8
    obtain ⟨y, c9, rfl⟩ := Option.map_eq_some_iff.mp c8
    have ew : y.d :: zs = rest := c6
    rw [← ew] at hk
    obtain ⟨c, hc0, ks', hk', hks⟩ : ∃ c, y.d = .int c ∧ ∃ ks', intsD zs = some ks' ∧ c :: ks' = ks := by
      cases hy : y.d with
      | int c =>
        rw [hy] at hk
        obtain ⟨ks', a, b⟩ := Option.map_eq_some_iff.mp (show (intsD zs).map (c :: ·) = some ks from hk)
        exact ⟨c, rfl, ks', a, b⟩
      | _ => rw [hy] at hk; cases hk
    have Rb := (Rd.ext' (s2.trans s3)).wiped vs
    refine ⟨Ox, Hb, _, its[i], env2, Rb, rep _ (fun a z => ?_) ((Rd.ext' s2).wiped vs).lst, c7, fun σ2 w2 o2 R2 => ⟨(w2 vs hv).trans (wipe_idem σ vs), Ox, Hb, env2, y, R2, c9, fun w H4 s4 rr => ?_⟩⟩
    · rcases z with z | ⟨j, hj, z⟩
      · exact .inl (.inl z)
      · exact .inl (.inr ⟨rfl, j, own_dem ls (own_blk z).2⟩)
    · have hyv : y = .v (.int c) := by
        cases y with
        | v d => rw [show d = .int c from hc0]
        | l ds => cases hc0
      subst hyv
      cases (show Rep _ _ _ w (.int c) from rr)
      have hS4 := s4 _ _ (s3 _ _ hS)
      have b1 := dist_le (ms ++ [c]) ks'
      have b2 := dist_step ms c
      have e6 : (ms ++ [c]) ++ ks' = ns := by rw [← hn, ← hks, List.append_assoc]; rfl
      rw [e6] at b1
      have b3 := dist_le ms (c :: ks')
      rw [hks, hn] at b3
      refine ⟨c, _, _, rfl, hS4, ?_, hlt, fun a o q => ?_, ms ++ [c], ks', zs, ?_, c5, hk', e6⟩
      · show _ < 4096
        omega
      · rw [upd_ne (fun z => by rw [z, hD] at q; cases q)]
        exact s4 _ _ (s3 _ _ (s2 _ _ q))
      · rw [upd_same, b2]
        congr 2
        funext j
        exact dist_mem
  · have he : i = its.length := by omega
    subst he
    refine .inl ⟨G.stop _ H2 s2 (Nat.le_refl _), ?_⟩
    rw [List.drop_length] at hc
    cases (show some [] = some rest from hc)
    cases (show some [] = some ks from hk)
    rw [List.append_nil] at hn
    subst hn
    exact k D0 _ H2 s2 hS
theorem e_slen {elt tg iter : Expr} {scope : Scope} {own : List (Str × Nat)} {p cpos pos : Pos} {fs : En → Option (List D)} {ls lelt : List Nat} {t : Tg} {fe : En → Option RV} (hgl : Gl X "len") (hm : X.mg "len" = none)
    (hc : X.calm = true) (hN : X.N.Nodup) (hi : PI X tg iter (tI X.K false fs ls)) (ok : BlkOk X.N X.env.scope scope own)
    (hg : ∀ (s : Shared) (H : Hp) (C : Addr) (cl : List (Str × Addr)) (fp : List Addr), PG (X.blk s H scope (compEnvC scope cl C X.env) fp) tg (tG X.K t))
    (he : ∀ (s : Shared) (H : Hp) (C : Addr) (cl : List (Str × Addr)) (fp : List Addr), PE (X.blk s H scope (compEnvC scope cl C X.env) fp) elt (tE X.K fe lelt))
    (hs : ∀ x, foldedSetIterable iter X.env x = pure x) (hv : ∀ i ∈ tgSlots t, i ∈ own.map (·.2)) :
    PE X (.Call (.Name "len" p) [.SetComp elt [⟨tg, iter, [], 0⟩] scope cpos] [] pos) (tE X.K (fun env => (fs env).bind fun its => if its.length < 100000 then (compL (cF t (own.map (·.2)) ls (fun _ => some true) fe env) its).bind fun ys => (intsD ys).bind fun ns => if (dist ns).length ≤ 4000 then some (.v (.int (dist ns).length)) else none else none) []) := by
  refine ⟨fun pins s σ H Q I ⟨Ox, Hb, env, r, R, e, k⟩ => ?_⟩
  obtain ⟨its, e1, e2⟩ := Option.bind_eq_some_iff.mp e
  split at e2
  case isFalse => cases e2
  obtain ⟨ys, e3, e2⟩ := Option.bind_eq_some_iff.mp e2
  obtain ⟨ns, e4, e2⟩ := Option.bind_eq_some_iff.mp e2
  split at e2
  case isFalse => cases e2
  rename_i hlen hds
  cases e2
  refine Call_ (ld_blt I hgl hm PySem.boot_len ?_)
  have blk := slen_blk (Q := fun v H' => ∃ p S, v = .ref p ∧ Same H H' ∧ H' p = some (SetO X.w p S (dist ns).length)) (pos := cpos) (te := tE X.K fe lelt) hc hN I hi ok hg he hs
    ⟨Ox, Hb, env, its, R, e1, fun J H1 s1 G => by
      rw [show notOwn (Pb false σ env ls) H1 = H1 from funext fun a => notOwn_no fun z => Bool.noConfusion z.1] at G
      exact slen_core (Q := fun v H' => ∃ p S, v = .ref p ∧ Same H H' ∧ H' p = some (SetO X.w p S (dist ns).length)) (lelt := lelt) (wi := fun _ _ Rk => Rk J H1) (H := H1) (R.ext' s1) e3 e4 hds hv G (fun p S H' s hp => ⟨p, S, rfl, s1.trans s, hp⟩) fun _ h => h⟩
  refine PyProof.Rows.callWith_builtin1 (PyProof.Rows.args_cons (thn blk fun v s1 ⟨x, H1, I1, r1, q1⟩ => PyProof.Rows.args_nil ?_) rfl) rfl rfl
  obtain ⟨a, S, rfl, sm, hp⟩ := q1
  cases r1
  obtain ⟨o, es, ep, tb, ho, hex, hd, _, _, _, hsz, hf, hn, _⟩ := setO_get I1 hp
  exact call_len_set ho hex hd hf (by rw [hn]; omega) ⟨.int (dist ns).length, H1, I1.tok _, ⟨_, by rw [hn]⟩, k _ H1 sm (.int _)⟩
end
end Wi

namespace Wi
open PySem PySem.Spec PyProof.Rows L2
def Post (K : PySem.W.Frag) (Ox : Addr → Prop) (Hb : Hp) (D : Ends) : Res → Prop
  | .nx e => ∀ σ' H', ER K Ox Hb H' σ' e → D.nx σ' H'
  | .bk e => ∀ σ' H', ER K Ox Hb H' σ' e → D.bk σ' H'
  | .ct e => ∀ σ' H', ER K Ox Hb H' σ' e → D.ct σ' H'
  | .rt r => ∀ v H', Same Hb H' → RR K Ox Hb H' v r → D.rt v H'
def tS (K : PySem.W.Frag) (f : En → Option Res) : TS := fun D σ H => ∃ Ox Hb env q, ER K Ox Hb H σ env ∧ f env = some q ∧ Post K Ox Hb D q
section
variable {K : PySem.W.Frag} {Ox : Addr → Prop} {Hb H H' : Hp} {σ : Sg} {env : En} {i : Nat} {a : Addr} {r : RV} {L : List Nat}
theorem after_own {ds : List D} (h : (after r L env)[i]? = some (.own ds)) : env[i]? = some (.own ds) := by
  have dem : ∀ (L : List Nat) {env : En}, (demote env L)[i]? = some (.own ds) → env[i]? = some (.own ds) := by
    intro L
    induction L with
    | nil => intro env h; exact h
    | cons j r ih =>
      intro env h
      unfold demote at h
      split at h
      · have h1 := ih h
        by_cases hj : j = i
        · subst hj
          by_cases hl : j < env.length
          · rw [List.getElem?_set_self hl] at h1; cases h1
          · rw [List.getElem?_eq_none (by simpa using hl)] at h1; cases h1
        · rw [List.getElem?_set_ne hj] at h1; exact h1
      · exact ih h
  unfold after at h
  split at h
  · exact h
  · split at h
    · exact h
    · exact dem _ h
/-- one's own list changes -/
theorem ER.mut (R : ER K Ox Hb H σ env) {ds ds' : List D} {vs' : List V} (h : env[i]? = some (.own ds)) (hs : σ[i]? = some (some (.ref a))) (hr : Reps K (Of Ox σ env []) H vs' ds') : ER K Ox Hb (upd H a (.lst vs')) σ (env.set i (.own ds')) := by
  have hi : i < env.length := (List.getElem?_eq_some_iff.mp h).1
  have oa : OwnAt σ env i a := ⟨⟨ds, h⟩, hs⟩
  have own : ∀ {j b}, OwnAt σ (env.set i (.own ds')) j b → OwnAt σ env j b := fun {j b} z => by
    obtain ⟨⟨es, e⟩, e2⟩ := z
    by_cases hj : j = i
    · subst hj; exact ⟨⟨ds, h⟩, e2⟩
    · rw [List.getElem?_set_ne (Ne.symm hj)] at e; exact ⟨⟨es, e⟩, e2⟩
  have sub : ∀ b, Of Ox σ (env.set i (.own ds')) [] b → Of Ox σ env [] b := fun b z => by
    rcases z with z | ⟨j, n, z⟩
    · exact .inl z
    · exact .inr ⟨j, n, own z⟩
  have kp : ∀ b o, H b = some o → ¬ Of Ox σ env [] b → upd H a (.lst vs') b = some o := fun b o e n => by
    rw [upd_ne (fun z => n (.inr ⟨i, by simp, by rw [z]; exact oa⟩))]; exact e
  have up : ∀ {w : V} {x : D}, Rep K (Of Ox σ env []) H w x → Rep K (Of Ox σ (env.set i (.own ds')) []) (upd H a (.lst vs')) w x := fun {w x} r => Rep.mono kp R.lst (fun b z => .inl (sub b z)) x w r
  have ups : ∀ {w : List V} {x : List D}, Reps K (Of Ox σ env []) H w x → Reps K (Of Ox σ (env.set i (.own ds')) []) (upd H a (.lst vs')) w x := fun {w x} r => Reps.mono kp R.lst (fun b z => .inl (sub b z)) x w r
  obtain ⟨a0, vs0, e1, e2, e3, e4, e5⟩ := R.own i ds h
  rw [hs] at e1
  cases e1
  refine ⟨by simpa using R.len, fun b o e => ?_, fun b z => ?_, fun j x q => ?_, fun j es q => ?_, fun j k b p q => R.dis j k b (own p) (own q)⟩
  · rw [upd_ne (fun z => by rw [z, e2] at e; cases e)]
    exact R.ext b o e
  · by_cases hb : b = a
    · subst hb; exact ⟨vs', upd_same⟩
    · obtain ⟨xs, e⟩ := R.ox b z
      exact ⟨xs, by rw [upd_ne hb]; exact e⟩
  · by_cases hj : j = i
    · subst hj
      rw [List.getElem?_set_self hi] at q
      cases q
    · rw [List.getElem?_set_ne (Ne.symm hj)] at q
      obtain ⟨u, f1, f2⟩ := R.val j x q
      exact ⟨u, f1, up f2⟩
  · by_cases hj : j = i
    · subst hj
      rw [List.getElem?_set_self hi] at q
      cases q
      exact ⟨a, vs', hs, e2, e3, upd_same, ups hr⟩
    · rw [List.getElem?_set_ne (Ne.symm hj)] at q
      obtain ⟨b, us, f1, f2, f3, f4, f5⟩ := R.own j es q
      refine ⟨b, us, f1, f2, f3, ?_, ups f5⟩
      rw [upd_ne (fun z => hj (R.dis j i a ⟨⟨es, q⟩, by rw [← z]; exact f1⟩ oa))]
      exact f4
/-- what else stands is held fast (for a loop) -/
theorem ER.fix (R : ER K Ox Hb H σ env) : ER K Ox (notOwn (fun a => ∃ i, OwnAt σ env i a) H) H σ env :=
  ⟨R.len, notOwn_same, R.ox, R.val, fun i ds h => by
    obtain ⟨a, vs, e1, e2, e3, e4, e5⟩ := R.own i ds h
    exact ⟨a, vs, e1, notOwn_yes ⟨i, ⟨ds, h⟩, e1⟩, e3, e4, e5⟩, R.dis⟩
theorem ER.fix_same (R : ER K Ox Hb H σ env) : Same Hb (notOwn (fun a => ∃ i, OwnAt σ env i a) H) := fun a o e => by
  rw [notOwn_no (fun ⟨i, ⟨ds, h⟩, h2⟩ => by
    obtain ⟨b, vs, e1, e2, _⟩ := R.own i ds h
    rw [e1] at h2; cases h2
    rw [e] at e2; cases e2)]
  exact R.ext a o e
theorem ER.unfix {Hf : Hp} (R : ER K Ox Hf H σ env) (s : Same Hb Hf) : ER K Ox Hb H σ env :=
  ⟨R.len, s.trans R.ext, R.ox, R.val, fun i ds h => by
    obtain ⟨a, vs, e1, e2, e3, e4, e5⟩ := R.own i ds h
    exact ⟨a, vs, e1, s.free e2, e3, e4, e5⟩, R.dis⟩
end
section
variable {X : Cx} {st : Stmt} {sts : List Stmt} {e c : Expr} {pos pos' : Pos} {f : En → Option RV} {lk : List Nat}
theorem ps_mono {t t' : TS} (h : PS X st t) (m : ∀ D σ H, σ.length = X.N.length → t' D σ H → t D σ H) : PS X st t' := ⟨fun pins s σ H D I q => h.run pins s σ H D I (m D σ H I.len q)⟩
theorem pss_mono {t t' : TS} (h : PSs X sts t) (m : ∀ D σ H, σ.length = X.N.length → t' D σ H → t D σ H) : PSs X sts t' := ⟨fun pins s σ H D I q => h.run pins s σ H D I (m D σ H I.len q)⟩
theorem ss_nil : PSs X [] (tS X.K fun env => some (.nx env)) := pss_mono pss_nil fun D σ H hl ⟨Ox, Hb, env, q, R, e, k⟩ => by cases e; exact k σ H R
theorem ss_cons {f g : En → Option Res} (h : PS X st (tS X.K f)) (hs : PSs X sts (tS X.K g)) : PSs X (st :: sts) (tS X.K fun env => (f env).bind fun q => match q with
    | .nx e => g e
    | o => some o) :=
  pss_mono (pss_cons h hs) fun D σ H hl ⟨Ox, Hb, env, q, R, e, k⟩ => by
    obtain ⟨q1, e1, e2⟩ := Option.bind_eq_some_iff.mp e
    refine ⟨Ox, Hb, env, q1, R, e1, ?_⟩
    cases q1 with
    | nx e3 => exact fun σ' H' R' => ⟨Ox, Hb, e3, q, R', e2, k⟩
    | rt r => cases e2; exact k
    | bk e3 => cases e2; exact k
    | ct e3 => cases e2; exact k
theorem asg_red {te : TE} {i : Nat} {D : Ends} {σ : Sg} {H : Hp} (he : te = tE X.K f lk) (hi : i < X.N.length) (hl : σ.length = X.N.length) (h : tS X.K (fun env => (f env).map fun r => .nx ((after r lk env).set i r.sl)) D σ H) : tAsg te (gName i) D σ H := by
  subst he
  obtain ⟨Ox, Hb, env, q, R, e, k⟩ := h
  obtain ⟨r, e1, rfl⟩ := Option.map_eq_some_iff.mp e
  refine ⟨Ox, Hb, env, r, R, e1, fun v H1 s rr => k _ _ ?_⟩
  obtain ⟨A, B⟩ := after_ok R s rr
  exact A.put s B (by rw [after_length, ← R.len, hl]; exact hi)
def notComp : Expr → Bool
  | .ListComp .. => false
  | .SetComp .. => false
  | .DictComp .. => false
  | _ => true
theorem swaps_no {tg : Option Expr} {n : Nat} {env : Env} (h : notComp e = true) : swapsWith e tg n env = pure false := by
  cases e <;> first | rfl | cases h
theorem ix_lt {i : Nat} {x : Str} (h : X.N[i]? = some x) : i < X.N.length := (List.getElem?_eq_some_iff.mp h).1
theorem s_asg {i : Nat} {x : Str} (hN : X.N.Nodup) (hi : X.N[i]? = some x) (hx : Loc X.env.scope x) (hf : X.fn x = true ∨ X.env.scope.names.lookup x = some .local) (he : PE X e (tE X.K f lk)) (hs : swapsWith e (some (.Name x pos')) pos.line X.env = pure false) :
    PS X (.Assign [.Name x pos'] e pos) (tS X.K fun env => (f env).map fun r => .nx ((after r lk env).set i r.sl)) :=
  ps_mono (ps_set hN hi hx he hs hf) fun D σ H hl h => asg_red rfl (ix_lt hi) hl h
theorem s_asgC {i : Nat} {x : Str} {elt tg iter : Expr} {ifs : List Expr} {scope : Scope} {own : List (Str × Nat)} {pos2 : Pos} {fs : En → Option (List D)} {ls lelt : List Nat} {t : Tg} {fc : En → Option Bool} {fe : En → Option RV}
    (hc : X.calm = true) (hN : X.N.Nodup) (hy : X.N[i]? = some x) (hyl : X.env.scope.names.lookup x = some .local)
    (hsw : swapsWith (.ListComp elt [⟨tg, iter, ifs, 0⟩] scope pos2) (some (.Name x pos')) pos.line X.env = pure true) (hi : PI X tg iter (tI X.K false fs ls)) (ok : BlkOk X.N X.env.scope scope own)
    (hg : ∀ (s : Shared) (H : Hp) (C : Addr) (cl : List (Str × Addr)) (fp : List Addr), PG (X.blk s H scope (compEnvC scope cl C X.env) fp) tg (tG X.K t))
    (ht : ∀ (s : Shared) (H : Hp) (C : Addr) (cl : List (Str × Addr)) (fp : List Addr), PTs (X.blk s H scope (compEnvC scope cl C X.env) fp) ifs (tT X.K fc))
    (he : ∀ (s : Shared) (H : Hp) (C : Addr) (cl : List (Str × Addr)) (fp : List Addr), PE (X.blk s H scope (compEnvC scope cl C X.env) fp) elt (tE X.K fe lelt))
    (hs : ∀ x, foldedSetIterable iter X.env x = pure x) (hv : ∀ i ∈ tgSlots t, i ∈ own.map (·.2)) :
    PS X (.Assign [.Name x pos'] (.ListComp elt [⟨tg, iter, ifs, 0⟩] scope pos2) pos) (tS X.K fun env => ((fun env => (fs env).bind fun its => if its.length ≤ LIM then (compL (cF t (own.map (·.2)) ls fc fe env) its).map .l else none) env).map fun r => .nx ((after r (ls ++ lelt) env).set i r.sl)) :=
  ps_mono (ps_setLc hc hN hy hyl hsw hi ok hg ht he hs) fun D σ H hl h => by
    have h2 := asg_red (X := X) (te := tE X.K (fun env => (fs env).bind fun its => if its.length ≤ LIM then (compL (cF t (own.map (·.2)) ls fc fe env) its).map .l else none) (ls ++ lelt)) rfl (ix_lt hy) hl h
    exact comp_red (elt := elt) (tg := tg) (iter := iter) (ifs := ifs) rfl rfl rfl rfl hv h2
theorem s_asgC2 {i : Nat} {x : Str} {elt tg iter tg1 iter1 : Expr} {scope : Scope} {own : List (Str × Nat)} {vs1 : List Nat} {pos2 : Pos} {fs : En → Option (List D)} {f1 fe : En → Option RV} {ls l1 lelt : List Nat} {t t1 : Tg}
    (hc : X.calm = true) (hN : X.N.Nodup) (hy : X.N[i]? = some x) (hyl : X.env.scope.names.lookup x = some .local)
    (hsw : swapsWith (.ListComp elt [⟨tg, iter, [], 0⟩, ⟨tg1, iter1, [], 0⟩] scope pos2) (some (.Name x pos')) pos.line X.env = pure true) (hi : PI X tg iter (tI X.K false fs ls)) (ok : BlkOk X.N X.env.scope scope own) (hvv : ∀ i ∈ vs1, i ∈ own.map (·.2))
    (hg : ∀ (s : Shared) (H : Hp) (C : Addr) (cl : List (Str × Addr)) (fp : List Addr), PG (X.blk s H scope (compEnvC scope cl C X.env) fp) tg (tG X.K t))
    (hi1 : ∀ (s : Shared) (H : Hp) (C : Addr) (cl : List (Str × Addr)) (fp : List Addr), PI (X.blk s H scope (compEnvC scope cl C X.env) fp) tg1 iter1 (tR X.K f1 l1))
    (hg1 : ∀ (s : Shared) (H : Hp) (C : Addr) (cl : List (Str × Addr)) (fp : List Addr), PG (X.blk s H scope (compEnvC scope cl C X.env) fp) tg1 (tG X.K t1))
    (he : ∀ (s : Shared) (H : Hp) (C : Addr) (cl : List (Str × Addr)) (fp : List Addr), PE (X.blk s H scope (compEnvC scope cl C X.env) fp) elt (tE X.K fe lelt))
    (hs : ∀ x, foldedSetIterable iter X.env x = pure x) (hs1 : ∀ env x, foldedSetIterable iter1 env x = pure x) (hv : ∀ i ∈ tgSlots t, i ∈ own.map (·.2)) (hv1 : ∀ i ∈ tgSlots t1, i ∈ vs1) :
    PS X (.Assign [.Name x pos'] (.ListComp elt [⟨tg, iter, [], 0⟩, ⟨tg1, iter1, [], 0⟩] scope pos2) pos) (tS X.K fun env => ((fun env => (fs env).bind fun its => if its.length ≤ LIM then (catL (cF2 t (own.map (·.2)) ls t1 vs1 f1 fe env) its).bind fun fin => if fin.length ≤ LIM then some (.l fin) else none else none) env).map fun r => .nx ((after r (ls ++ lelt) env).set i r.sl)) :=
  ps_mono (ps_setLc2 (tt := tT X.K fun _ => some true) (tt1 := tT X.K fun _ => some true) hc hN hy hyl hsw hi ok hvv hg (fun s H C cl fp => t_yes (X := X.blk s H scope (compEnvC scope cl C X.env) fp) (env0 := [])) hi1 hg1 (fun s H C cl fp => t_yes (X := X.blk s H scope (compEnvC scope cl C X.env) fp) (env0 := [])) he hs hs1) fun D σ H hl h =>
    comp2_red hvv hv hv1 (asg_red (X := X) (te := tE X.K (fun env => (fs env).bind fun its => if its.length ≤ LIM then (catL (cF2 t (own.map (·.2)) ls t1 vs1 f1 fe env) its).bind fun fin => if fin.length ≤ LIM then some (.l fin) else none else none) (ls ++ lelt)) rfl (ix_lt hy) hl h)
theorem s_unp {ts : List Tg} {es : List Expr} {k0 : Nat} (hc : X.calm = true) (he : PE X e (tC X.K f lk)) (hg : PG X (.Tuple es k0 pos') (tG X.K (.t ts))) (hs : swapsWith e (some (.Tuple es k0 pos')) pos.line X.env = pure false) (hw : swappedStores [.Tuple es k0 pos'] e X.env = pure none) :
    PS X (.Assign [.Tuple es k0 pos'] e pos) (tS X.K fun env => (f env).bind fun r => match r.d with
    | .tuple ds => (binds ts ds (after r lk env)).map .nx
    | _ => none) :=
  ps_mono (ps_asg he hg hs hw) fun D σ H hl ⟨Ox, Hb, env, q, R, e, k⟩ => by
    obtain ⟨r, e1, e2⟩ := Option.bind_eq_some_iff.mp e
    refine ⟨Ox, Hb, env, r, R, e1, fun v H1 s rc => ?_⟩
    split at e2
    · rename_i ds hd
      obtain ⟨env', e3, rfl⟩ := Option.map_eq_some_iff.mp e2
      have rr : RR X.K (Of Ox σ env lk) H H1 v r := by
        cases r with
        | v d => cases (show d = .tuple ds from hd); exact rc
        | l xs => cases hd
      obtain ⟨A, B⟩ := after_ok R s rr
      have A1 := A.ext' s
      have B1 := B.rep A.lst A1.lst
      rw [hd] at B1
      exact ⟨Ox, Hb, _, .tuple ds, env', A1, B1, e3, fun σ' _ _ R' => k σ' H1 R'⟩
    · cases e2
def rIq (q : Int → Int → Option RV) : R2 := fun x y H Q => ∃ i j r, x = .int i ∧ y = .int j ∧ q i j = some (.v (.int r)) ∧ Q (.int r) H
theorem ii_of {f : Value → Value → Sem Value} {C : Int → Int → Prop} {g : Int → Int → Int} {q : Int → Int → Option RV} (h : OpR X f (rI C fun i j => .int (g i j))) (hq : ∀ i j r, q i j = some r → C i j ∧ r = .v (.int (g i j))) : OpR X f (rIq q) :=
  opr_mono h fun x y H Q ⟨i, j, r, e1, e2, e3, k⟩ => by
    obtain ⟨hc, e4⟩ := hq i j _ e3
    cases e4
    exact ⟨i, j, e1, e2, hc, k⟩
theorem ii_add : OpR X (inplaceOp .Add) (rIq fun i j => o2 .add (.int i) (.int j)) := ii_of (C := fun _ _ => True) (g := fun i j => i + j) (opr_mono iop_add fun x y H Q ⟨i, j, a, b, _, q⟩ => ⟨i, j, a, b, q⟩) fun i j r e => by cases e; exact ⟨trivial, rfl⟩
theorem ii_sub : OpR X (inplaceOp .Sub) (rIq fun i j => o2 .sub (.int i) (.int j)) := ii_of (C := fun _ _ => True) (g := fun i j => i - j) (opr_mono iop_sub fun x y H Q ⟨i, j, a, b, _, q⟩ => ⟨i, j, a, b, q⟩) fun i j r e => by cases e; exact ⟨trivial, rfl⟩
theorem ii_mul : OpR X (inplaceOp .Mult) (rIq fun i j => o2 .mul (.int i) (.int j)) := ii_of iop_mul fun i j r e => by
  have e : (if mulOk i j = true then some (RV.v (.int (i * j))) else none) = some r := e
  split at e
  · rename_i h
    cases e
    unfold mulOk at h
    rw [Bool.or_eq_true, decide_eq_true_eq, decide_eq_true_eq] at h
    exact ⟨h, rfl⟩
  · cases e
theorem ii_fdiv : OpR X (inplaceOp .FloorDiv) (rIq fun i j => o2 .fdiv (.int i) (.int j)) := ii_of iop_fdiv fun i j r e => by
  have e : (if 0 < j ∧ j < 1073741824 then some (RV.v (.int (i / j))) else none) = some r := e
  split at e
  · rename_i h; cases e; exact ⟨h, rfl⟩
  · cases e
theorem ii_mod : OpR X (inplaceOp .Mod) (rIq fun i j => o2 .mod (.int i) (.int j)) := ii_of iop_mod fun i j r e => by
  have e : (if 0 < j then some (RV.v (.int (i % j))) else none) = some r := e
  split at e
  · rename_i h; cases e; exact ⟨h, rfl⟩
  · cases e
theorem o2_int {o : O2} {i j : Int} {r : RV} (h : o2 o (.int i) (.int j) = some r) : ∃ n, r = .v (.int n) := by
  cases o with
  | add => cases h; exact ⟨_, rfl⟩
  | sub => cases h; exact ⟨_, rfl⟩
  | mul =>
    have e : (if mulOk i j = true then some (RV.v (.int (i * j))) else none) = some r := h
    split at e
    · cases e; exact ⟨_, rfl⟩
    · cases e
  | fdiv =>
    have e : (if 0 < j ∧ j < 1073741824 then some (RV.v (.int (i / j))) else none) = some r := h
    split at e
    · cases e; exact ⟨_, rfl⟩
    · cases e
  | mod =>
    have e : (if 0 < j then some (RV.v (.int (i % j))) else none) = some r := h
    split at e
    · cases e; exact ⟨_, rfl⟩
    · cases e
  | pow =>
    have e : (if 0 ≤ j ∧ j ≤ 1000000 ∧ i.natAbs < 2 ^ 64 then some (RV.v (.int (i ^ j.toNat))) else none) = some r := h
    split at e
    · cases e; exact ⟨_, rfl⟩
    · cases e
theorem s_aug {i : Nat} {x : Str} {op : Operator} {o : O2} (hN : X.N.Nodup) (hi : X.N[i]? = some x) (hx : Loc X.env.scope x) (hf : X.fn x = true ∨ X.env.scope.names.lookup x = some .local) (he : PE X e (tC X.K f lk)) (ho : OpR X (inplaceOp op) (rIq fun i j => o2 o (.int i) (.int j))) :
    PS X (.AugAssign (.Name x pos') op e pos) (tS X.K fun env => (rdv env i).bind fun x => (f env).bind fun y => match x.d, y.d with
    | .int a, .int b => (o2 o (.int a) (.int b)).map fun r => .nx (env.set i r.sl)
    | _, _ => none) :=
  ps_mono (ps_aug hN hi hx he ho hf) fun D σ H hl ⟨Ox, Hb, env, q, R, e, k⟩ => by
    obtain ⟨x0, e1, e⟩ := Option.bind_eq_some_iff.mp e
    obtain ⟨y0, e2, e⟩ := Option.bind_eq_some_iff.mp e
    split at e
    · rename_i a b ha hb
      obtain ⟨r, e3, rfl⟩ := Option.map_eq_some_iff.mp e
      obtain ⟨n, rfl⟩ := o2_int e3
      rcases env_cases e1 with ⟨d, q, rfl⟩ | ⟨ds, q, rfl⟩
      · cases (show d = .int a from ha)
        obtain ⟨v, f1, f2⟩ := R.val i _ q
        cases f2
        refine ⟨_, f1, Ox, Hb, env, y0, R, e2, fun v H1 s c => ?_⟩
        rw [hb] at c
        exact ⟨a, b, n, rfl, rc_int c, e3, k _ _ ((R.ext' s).set (by rw [← R.len, hl]; exact ix_lt hi) (.int n))⟩
      · cases ha
    · cases e
theorem s_app {i : Nat} {x : Str} {p1 p2 cpos : Pos} (hi : X.N[i]? = some x) (hv : Vis X.env.scope x) (hd : (x == ("__debug__" : Str)) = false) (hcd : (x == ("__classdict__" : Str)) = false) (he : PE X e (tE X.K f lk)) (hst : isStar e = false) (hln : (p2.endLine == cpos.line) = true) :
    PS X (.Expr (.Call (.Attribute (.Name x p1) "append" p2) [e] [] cpos) pos) (tS X.K fun env => (f env).bind fun r => match (after r lk env)[i]? with
    | some (.own ds) => if ds.length < LIM then some (.nx ((after r lk env).set i (.own (ds ++ [r.d])))) else none
    | _ => none) :=
  ps_mono (ps_expr (pe_bm PySem.F.plainAttrs_list PySem.F.slot_list_append PySem.F.type_list_append mt_append (pe_var hi hv hd hcd) (pa_cons he pa_nil (star_cons hst)) (by rfl) (by rw [star_cons hst]; rfl) hln (star_cons hst) (by rfl)) (by rfl)) fun D σ H hl ⟨Ox, Hb, env, q, R, e, k⟩ => by
    obtain ⟨r, e1, e2⟩ := Option.bind_eq_some_iff.mp e
    split at e2
    · rename_i ds ho
      split at e2
      · rename_i hlen
        cases e2
        have ho0 := after_own ho
        obtain ⟨a, vs, f1, f2, f3, f4, f5⟩ := R.own i ds ho0
        refine ⟨.ref a, f1, .inl ⟨rfl, vs, .inl (.inl f4)⟩, Ox, Hb, env, r, R, e1, fun v H1 s rr => ?_⟩
        obtain ⟨A, B⟩ := after_ok R s rr
        obtain ⟨a2, vs2, g1, g2, g3, g4, g5⟩ := A.own i ds ho
        rw [f1] at g1; cases g1
        have A1 := A.ext' s
        have hz := lim_le
        refine ⟨a, vs2, v, rfl, rfl, s _ _ g4, by rw [g5.length]; omega, k _ _ (A1.mut ho f1 ?_)⟩
        exact (reps_ext s A.lst g5).append (.cons (B.rep A.lst A1.lst) .nil)
      · cases e2
    · cases e2
theorem s_ext {i : Nat} {x : Str} {p1 p2 cpos : Pos} (hi : X.N[i]? = some x) (hv : Vis X.env.scope x) (hd : (x == ("__debug__" : Str)) = false) (hcd : (x == ("__classdict__" : Str)) = false) (he : PE X e (tC X.K f lk)) (hst : isStar e = false) (hln : (p2.endLine == cpos.line) = true) :
    PS X (.Expr (.Call (.Attribute (.Name x p1) "extend" p2) [e] [] cpos) pos) (tS X.K fun env => (f env).bind fun r => match (demote env lk)[i]?, r.d with
    | some (.own ds), .list xs => if ds.length + xs.length ≤ LIM then some (.nx ((demote env lk).set i (.own (ds ++ xs)))) else none
    | _, _ => none) :=
  ps_mono (ps_expr (pe_bm PySem.F.plainAttrs_list PySem.F.slot_list_extend PySem.F.type_list_extend mt_extend (pe_var hi hv hd hcd) (pa_cons he pa_nil (star_cons hst)) (by rfl) (by rw [star_cons hst]; rfl) hln (star_cons hst) (by rfl)) (by rfl)) fun D σ H hl ⟨Ox, Hb, env, q, R, e, k⟩ => by
    obtain ⟨r, e1, e2⟩ := Option.bind_eq_some_iff.mp e
    split at e2
    · rename_i ds xs ho hx
      split at e2
      · rename_i hlen
        cases e2
        have A := R.dem lk
        obtain ⟨a, vs, f1, f2, f3, f4, f5⟩ := A.own i ds ho
        refine ⟨.ref a, f1, .inl ⟨rfl, vs, .inl (.inl f4)⟩, Ox, Hb, env, r, R, e1, fun v H1 s rc => ?_⟩
        rw [hx] at rc
        obtain ⟨b, us, rfl, g1, g2⟩ := rc
        have A1 := A.ext' s
        have hz := lim_le
        refine ⟨a, b, vs, us, rfl, rfl, s _ _ f4, g1, by rw [f5.length, g2.length]; omega, k _ _ (A1.mut ho f1 ?_)⟩
        exact (reps_ext s A.lst f5).append (reps_weak (R.ext' s).lst of_dem g2)
      · cases e2
    · cases e2
theorem s_seti {i : Nat} {x : Str} {j : Expr} {g : En → Option RV} {lj : List Nat} {p1 p2 : Pos} (hi : X.N[i]? = some x) (hv : Vis X.env.scope x) (hd : (x == ("__debug__" : Str)) = false) (hcd : (x == ("__classdict__" : Str)) = false) (he : PE X e (tE X.K f lk)) (hj : PE X j (tC X.K g lj)) (hnj : notSlice j = true)
    (hs : swapsWith e (some (.Subscript (.Name x p1) j p2)) pos.line X.env = pure false) :
    PS X (.Assign [.Subscript (.Name x p1) j p2] e pos) (tS X.K fun env => (f env).bind fun r => (g env).bind fun k => match (after r lk env)[i]?, k.d with
    | some (.own ds), .int k => (plc ds.length k).map fun q => .nx ((after r lk env).set i (.own (ds.set q r.d)))
    | _, _ => none) := by
  refine ps_mono (ps_asg he (pg_sub (pe_var hi hv hd hcd) hj set_list (fun v => ?_)) hs (by cases e <;> rfl)) fun D σ H hl ⟨Ox, Hb, env, q, R, e, k⟩ => ?_
  · cases j <;> first | rfl | cases hnj
  · obtain ⟨r, e1, e2⟩ := Option.bind_eq_some_iff.mp e
    obtain ⟨kk, e3, e4⟩ := Option.bind_eq_some_iff.mp e2
    split at e4
    · rename_i ds n ho hk
      obtain ⟨q, e5, rfl⟩ := Option.map_eq_some_iff.mp e4
      refine ⟨Ox, Hb, env, r, R, e1, fun v H1 s rr => ?_⟩
      obtain ⟨A, B⟩ := after_ok R s rr
      obtain ⟨a, vs, f1, f2, f3, f4, f5⟩ := A.own i ds ho
      refine ⟨.ref a, f1, Ox, Hb, env, kk, R.ext' s, e3, fun u H2 s2 c2 => ?_⟩
      rw [hk] at c2
      have S := s.trans s2
      have A1 := A.ext' S
      refine ⟨a, vs, n, q, rfl, rc_int c2, S _ _ f4, by rw [plc_ix, f5.length]; exact e5, k _ _ (A1.mut ho f1 ?_)⟩
      exact (reps_ext S A.lst f5).set (rep_ext s2 (A.ext' s).lst (B.rep A.lst (A.ext' s).lst)) q
    · cases e4
theorem s_ret (he : PE X e (tE X.K f lk)) : PS X (.Return (some e) pos) (tS X.K fun env => (f env).map .rt) :=
  ps_mono (ps_ret he) fun D σ H hl ⟨Ox, Hb, env, q, R, e, k⟩ => by
    obtain ⟨r, e1, rfl⟩ := Option.map_eq_some_iff.mp e
    exact ⟨Ox, Hb, env, r, R, e1, fun v H1 s rr => k v H1 (R.ext.trans s) ((rr.weak (R.ext' s).lst fun _ z => .inl z).back R.ext)⟩
theorem s_retv {i : Nat} {x : Str} (hi : X.N[i]? = some x) (hv : Vis X.env.scope x) (hd : (x == ("__debug__" : Str)) = false) (hcd : (x == ("__classdict__" : Str)) = false) : PS X (.Return (some (.Name x pos')) pos) (tS X.K fun env => (rdv env i).map fun r => .rt (retR (.var i) env r)) :=
  ps_mono (ps_ret (pe_var hi hv hd hcd)) fun D σ H hl ⟨Ox, Hb, env, q, R, e, k⟩ => by
    obtain ⟨r, e1, rfl⟩ := Option.map_eq_some_iff.mp e
    rcases env_cases e1 with ⟨d, q, rfl⟩ | ⟨ds, q, rfl⟩
    · obtain ⟨v, f1, f2⟩ := R.val i d q
      have hr : retR (.var i) env (.v d) = .v d := by unfold retR; dsimp only; rw [q]
      rw [hr] at k
      exact ⟨v, f1, k v H R.ext (rep_weak R.lst (fun _ z => .inl z) f2)⟩
    · obtain ⟨a, vs, f1, f2, f3, f4, f5⟩ := R.own i ds q
      have hr : retR (.var i) env (.v (.list ds)) = .l ds := by unfold retR; dsimp only; rw [q]
      rw [hr] at k
      refine ⟨.ref a, f1, k _ H R.ext ⟨a, vs, rfl, f2, f4, reps_weak R.lst (fun b z => ?_) f5⟩⟩
      rcases z with z | rfl
      · exact .inl z
      · exact .inr ⟨i, by simp, ⟨ds, q⟩, f1⟩
theorem s_retN : PS X (.Return none pos) (tS X.K fun _ => some (.rt (.v .none))) := ps_mono ps_retN fun D σ H hl ⟨Ox, Hb, env, q, R, e, k⟩ => by
  cases e; exact k _ H R.ext .non
theorem s_brk : PS X (.Break pos) (tS X.K fun env => some (.bk env)) := ps_mono ps_break fun D σ H hl ⟨Ox, Hb, env, q, R, e, k⟩ => by cases e; exact k _ H R
theorem s_cnt : PS X (.Continue pos) (tS X.K fun env => some (.ct env)) := ps_mono ps_continue fun D σ H hl ⟨Ox, Hb, env, q, R, e, k⟩ => by cases e; exact k _ H R
theorem s_pas : PS X (.Pass pos) (tS X.K fun env => some (.nx env)) := ps_mono ps_pass fun D σ H hl ⟨Ox, Hb, env, q, R, e, k⟩ => by cases e; exact k _ H R
theorem s_doc {x : Str} {j : Nat} : PS X (.Expr (.Constant (.str x) j pos') pos) (tS X.K fun env => some (.nx env)) := ps_mono ps_doc fun D σ H hl ⟨Ox, Hb, env, q, R, e, k⟩ => by cases e; exact k _ H R
theorem s_ex (he : PE X e (tE X.K f lk)) (hs : notComp e = true) : PS X (.Expr e pos) (tS X.K fun env => (f env).map fun _ => .nx env) := ps_mono (ps_expr he (swaps_no hs)) fun D σ H hl ⟨Ox, Hb, env, q, R, e, k⟩ => by
  obtain ⟨r, e1, rfl⟩ := Option.map_eq_some_iff.mp e
  exact ⟨Ox, Hb, env, r, R, e1, fun v H1 s rr => k _ H1 (R.ext' s)⟩
theorem s_ite {a b : List Stmt} {fc : En → Option Bool} {fa fb : En → Option Res} (hc : PT X c (tT X.K fc)) (ha : PSs X a (tS X.K fa)) (hb : PSs X b (tS X.K fb)) : PS X (.If c a b pos) (tS X.K fun env => (fc env).bind fun k => if k = true then fa env else fb env) :=
  ps_mono (ps_if hc ha hb) fun D σ H hl ⟨Ox, Hb, env, q, R, e, k⟩ => by
    obtain ⟨b, e1, e2⟩ := Option.bind_eq_some_iff.mp e
    refine ⟨Ox, Hb, env, b, R, e1, fun H1 s => ?_⟩
    cases b with
    | true => rw [if_pos rfl] at e2 ⊢; exact ⟨Ox, Hb, env, q, R.ext' s, e2, k⟩
    | false => rw [if_neg Bool.false_ne_true] at e2 ⊢; exact ⟨Ox, Hb, env, q, R.ext' s, e2, k⟩
theorem s_whl {b : List Stmt} {fc : En → Option Bool} {fb : En → Option Res} (hp : PassesOwn (model X.prog X.w) X.A X.env X.xe) (hc : PT X c (tT X.K fc)) (hb : PSs X b (tS X.K fb)) : PS X (.While c b [] pos) (tS X.K fun env => whlL fc fb WF env) :=
  ps_mono (ps_while hp hc hb) fun D σ H hl ⟨Ox, Hb, env, q, R, e, k⟩ => by
    refine ⟨fun m σ H => ∃ env, ER X.K Ox Hb H σ env ∧ whlL fc fb m env = some q, ⟨WF, env, R, e⟩, fun m σ1 H1 ⟨env1, R1, e1⟩ => ?_⟩
    cases m with
    | zero => cases e1
    | succ m =>
      rw [whlL] at e1
      obtain ⟨kb, e2, e3⟩ := Option.bind_eq_some_iff.mp e1
      refine ⟨Ox, Hb, env1, kb, R1, e2, fun H2 s => ?_⟩
      cases kb with
      | false =>
        rw [if_neg Bool.false_ne_true] at e3 ⊢
        cases e3
        exact k _ _ (R1.ext' s)
      | true =>
        rw [if_pos rfl] at e3 ⊢
        obtain ⟨q1, e4, e5⟩ := Option.bind_eq_some_iff.mp e3
        refine ⟨fun σ' H' => ∃ env, ER X.K Ox Hb H' σ' env ∧ whlL fc fb m env = some q, fun σ' H' h => ⟨m, Nat.lt_succ_self m, h⟩, Ox, Hb, env1, q1, R1.ext' s, e4, ?_⟩
        cases q1 with
        | nx e6 => exact fun σ' H' R' => ⟨e6, R', e5⟩
        | ct e6 => exact fun σ' H' R' => ⟨e6, R', e5⟩
        | bk e6 => cases e5; exact k
        | rt r => cases e5; exact k
theorem s_for {tg iter : Expr} {b : List Stmt} {t : Tg} {fs : En → Option (List D)} {ls : List Nat} {fb : En → Option Res} (hp : PassesOwn (model X.prog X.w) X.A X.env X.xe) (hc : X.calm = true) (hi : PI X tg iter (tI X.K true fs ls)) (hg : PG X tg (tG X.K t)) (hb : PSs X b (tS X.K fb))
    (hs : ∀ x, foldedSetIterable iter X.env x = pure x) : PS X (.For tg iter b [] pos) (tS X.K fun env => (fs env).bind fun its => forL (fun x e => (bind t x e).bind fb) its (demote env ls)) :=
  ps_mono (ps_for hp hc hi hg hb hs) fun D σ H hl ⟨Ox, Hb, env, q, R, e, k⟩ => by
    obtain ⟨its, e1, e2⟩ := Option.bind_eq_some_iff.mp e
    refine ⟨Ox, Hb, env, its, R, e1, fun J H1 s1 G => ?_⟩
    have R1 := (R.ext' s1).dem ls
    have hno : notOwn (Pb true σ env ls) H1 = notOwn (fun a => ∃ i, OwnAt σ (demote env ls) i a) H1 := by
      funext a
      by_cases h : Pb true σ env ls a
      · obtain ⟨_, i, n, z⟩ := h
        rw [notOwn_yes ⟨rfl, i, n, z⟩, notOwn_yes ⟨i, dem_own ls n z⟩]
      · rw [notOwn_no h, notOwn_no (fun ⟨i, z⟩ => h ⟨rfl, i, own_dem ls z⟩)]
    rw [hno] at G
    have hsf := R1.fix_same
    have RF := R1.fix
    generalize notOwn (fun a => ∃ i, OwnAt σ (demote env ls) i a) H1 = Hf at G hsf RF
    refine ⟨fun i m σ H => m = its.length - i ∧ i ≤ its.length ∧ ∃ env, ER X.K Ox Hf H σ env ∧ forL (fun x e => (bind t x e).bind fb) (its.drop i) env = some q, ⟨its.length, by simp, Nat.zero_le _, _, RF, by rw [List.drop_zero]; exact e2⟩, ?_⟩
    rintro i m σ2 H2 ⟨rfl, hle, env2, R2, e3⟩
    by_cases hlt : i < its.length
    · have hget : its[i]? = some its[i] := List.getElem?_eq_getElem hlt
      refine .inr ⟨G.go i _ H2 R2.ext hget, fun σ' H' => i + 1 ≤ its.length ∧ ∃ env, ER X.K Ox Hf H' σ' env ∧ forL (fun x e => (bind t x e).bind fb) (its.drop (i + 1)) env = some q, fun σ' H' h => ⟨its.length - (i + 1), by omega, rfl, h⟩, fun x H3 hy => ?_⟩
      obtain ⟨s3, rep⟩ := G.yld i _ H2 x H3 R2.ext hget hy
      rw [List.drop_eq_getElem_cons hlt, forL] at e3
      obtain ⟨q1, e4, e5⟩ := Option.bind_eq_some_iff.mp e3
      obtain ⟨env3, e6, e7⟩ := Option.bind_eq_some_iff.mp e4
      refine ⟨Ox, Hf, env2, its[i], env3, R2.ext' s3, rep _ (fun a z => ?_) R2.lst, e6, fun σ' _ _ R' => ⟨Ox, Hf, env3, q1, R', e7, ?_⟩⟩
      · rcases z with z | ⟨j, nj, ⟨ds, z⟩, z2⟩
        · exact .inl (.inl z)
        · obtain ⟨b, us, f1, f2, _⟩ := R2.own j ds z
          rw [f1] at z2; cases z2
          exact .inr f2
      · cases q1 with
        | nx e8 => exact fun σ' H' R' => ⟨hlt, e8, R', e5⟩
        | ct e8 => exact fun σ' H' R' => ⟨hlt, e8, R', e5⟩
        | bk e8 => cases e5; exact fun σ' H' R' => k σ' H' (R'.unfix hsf)
        | rt r => cases e5; exact fun v H' s rr => k v H' (hsf.trans s) (rr.back hsf)
    · have he : i = its.length := by omega
      subst he
      rw [List.drop_length] at e3
      cases e3
      exact .inl ⟨G.stop _ H2 R2.ext (Nat.le_refl _), k _ _ (R2.unfix hsf)⟩
end
theorem zip_nolen : typeLookup (.type "zip") "__len__" = pure none := am_miss_of_fast (by decide +kernel)
theorem zip_nohint : typeLookup (.type "zip") "__length_hint__" = pure none := am_miss_of_fast (by decide +kernel)
section
variable {prog : Program} {w : World} {A : Around} {E : Value → Shared → Prop} {s : Shared} {z TI TO i1 i2 l1 l2 : Addr} {k : Nat} {xs ys : Array Value}
/-- a pair of a zip of two tuples, while the first pair T is in use -/
theorem zh_item {T : Addr} {f : Bool} {oT : Obj} {x y : Value} {Q : Option Value → Shared → Prop} (ap : ZipApart z TI TO i1 i2 l1 l2) (held : IsZipHeld s.heap z TI TO T f) (alive : s.heap.get? T = some oT) (its : IsPair s.heap TI (.ref i1) (.ref i2))
    (w1 : s.heap.IsTupleIter i1 l1 k) (w2 : s.heap.IsTupleIter i2 l2 k) (t1 : s.heap.IsTuple l1 xs) (t2 : s.heap.IsTuple l2 ys) (gx : xs[k]? = some x) (gy : ys[k]? = some y)
    (q : ∀ h', IsZipHeld h' z TI TO T true → h'.IsTupleIter i1 l1 (k + 1) → h'.IsTupleIter i2 l2 (k + 1) → IsPair h' s.heap.objs.size x y → h'.objs.size = s.heap.objs.size + 1 → (∀ c o, c ≠ z → c ≠ i1 → c ≠ i2 → s.heap.get? c = some o → h'.get? c = some o) → Q (some (.ref s.heap.objs.size)) { s with heap := h' }) :
    wpAny (model prog w) A (pyNext (.ref z)) Q E s := by
  have ty : s.TypeIs (.ref z) "zip" := ⟨_, held, rfl⟩
  unfold pyNext
  refine wpAny_bind (wpAny_attempt (wpAny_callSpecial?_slot (name := Str.ofString "__next__") ty F.slot_zip_next (wpAny_call_entry F.slot_zip_next ty F.entry_zip_next ?_ (F.args_zip_next_1 _))))
  change wpAny _ _ (field (.ref z) 2 >>= _) _ _ _
  refine wpAny_bind (wpAny_field held rfl (x := .bool false) rfl ?_)
  change wpAny _ _ (field (.ref z) 3 >>= _) _ _ _
  refine wpAny_bind (wpAny_field held rfl (x := .ref TI) rfl (wpAny_bind (wpAny_seqItems its rfl ?_)))
  change wpAny _ _ (Builtin.SmallTypes.ownedTupleIsFree (.ref z) >>= _) _ _ _
  refine wpAny_bind (wpAny_tupleHeld_zip held alive fun a hz e => ?_)
  simp only [Bool.false_eq_true, if_false]
  refine wpAny_bind ?_
  rw [← Array.forIn_toList]
  simp only [List.forIn_cons, List.forIn_nil]
  refine wpAny_bind (wpAny_bind (wpAny_holding ?_))
  change wpAny _ _ (Builtin.SmallTypes.nextOf (.ref i1) >>= _) _ _ _
  refine wpAny_bind (wpAny_nextOf_tuple_item (s := { s with heap := a }) (w1.extBut e.extBut ap.i1z) (t1.extBut e.extBut ap.l1z) gx fun b w1b eb => wpAny_pure (wpAny_pure (wpAny_bind (wpAny_bind (wpAny_holding ?_)))))
  change wpAny _ _ (Builtin.SmallTypes.nextOf (.ref i2) >>= _) _ _ _
  refine wpAny_bind (wpAny_nextOf_tuple_item (s := { s with heap := b }) ((w2.extBut e.extBut ap.i2z).extBut eb.extBut ap.i12.symm) ((t2.extBut e.extBut ap.l2z).extBut eb.extBut ap.l2i1) gy fun c w2c ec => wpAny_pure (wpAny_pure (wpAny_pure ?_)))
  change wpAny _ _ (newTuple [x, y] >>= _) _ _ _
  refine wpAny_bind (wpAny_newTuple (wpAny_pure ⟨_, rfl, wpAny_pure ?_⟩))
  have sz : c.objs.size = s.heap.objs.size := by rw [ec.1, eb.1, e.1]
  have old : ∀ b o, b ≠ z → b ≠ i1 → b ≠ i2 → s.heap.get? b = some o → c.get? b = some o := fun b o n1 n2 n3 r => ec.extBut _ _ n3 (eb.extBut _ _ n2 (e.extBut _ _ n1 r))
  have zc : IsZipHeld c z TI TO T true := ec.extBut _ _ ap.i2z.symm (eb.extBut _ _ ap.i1z.symm hz)
  have made : IsPair (c.push { cls := .type "tuple", data := .seq #[x, y] }) c.objs.size x y := Heap.get?_push_size _ rfl
  have grown : (c.push { cls := .type "tuple", data := .seq #[x, y] }).objs.size = c.objs.size + 1 := Heap.size_push ..
  change Q (some (.ref c.objs.size)) _
  rw [sz] at made grown ⊢
  exact q _ (Heap.get?_push_of_some _ zc) ((w1b.extBut ec.extBut ap.i12).at fun o r => Heap.get?_push_of_some _ r) (w2c.at fun o r => Heap.get?_push_of_some _ r) made grown fun b o n1 n2 n3 r => Heap.get?_push_of_some _ (old b o n1 n2 n3 r)
theorem zh_end {T : Addr} {f : Bool} {oT : Obj} {Q : Option Value → Shared → Prop} (hh : A.handled = none) (ap : ZipApart z TI TO i1 i2 l1 l2) (held : IsZipHeld s.heap z TI TO T f) (alive : s.heap.get? T = some oT) (its : IsPair s.heap TI (.ref i1) (.ref i2))
    (w1 : s.heap.IsTupleIter i1 l1 k) (w2 : s.heap.IsTupleIter i2 l2 k) (t1 : s.heap.IsTuple l1 xs) (t2 : s.heap.IsTuple l2 ys) (over : xs[k]? = none ∨ ys[k]? = none)
    (q : ∀ h', (∀ c o, c ≠ z → c ≠ i1 → c ≠ i2 → s.heap.get? c = some o → h'.get? c = some o) → Q none { s with heap := h' }) : wpAny (model prog w) A (pyNext (.ref z)) Q E s := by
  have ty : s.TypeIs (.ref z) "zip" := ⟨_, held, rfl⟩
  have stop : ∀ h' x, (∀ c o, c ≠ z → c ≠ i1 → c ≠ i2 → s.heap.get? c = some o → h'.get? c = some o) → (∃ o, h'.get? x = some o ∧ o.cls = .type "StopIteration") → ∀ A', wpAny (model prog w) A' (isInstance (.ref x) (.type "StopIteration") >>= fun b => if b = true then pure none else throw (.ref x)) Q E { s with heap := h' } := fun h' x kp ⟨o, ho, hc⟩ A' =>
    wpAny_bind (wpAny_isInstance (T := "StopIteration") (b := true) ⟨o, ho, hc⟩ isSubtype_stop (wpAny_pure (q _ kp)))
  unfold pyNext
  refine wpAny_bind (wpAny_attempt (wpAny_callSpecial?_slot (name := Str.ofString "__next__") ty F.slot_zip_next (wpAny_call_entry F.slot_zip_next ty F.entry_zip_next ?_ (F.args_zip_next_1 _))))
  change wpAny _ _ (field (.ref z) 2 >>= _) _ _ _
  refine wpAny_bind (wpAny_field held rfl (x := .bool false) rfl ?_)
  change wpAny _ _ (field (.ref z) 3 >>= _) _ _ _
  refine wpAny_bind (wpAny_field held rfl (x := .ref TI) rfl (wpAny_bind (wpAny_seqItems its rfl ?_)))
  change wpAny _ _ (Builtin.SmallTypes.ownedTupleIsFree (.ref z) >>= _) _ _ _
  refine wpAny_bind (wpAny_tupleHeld_zip held alive fun a hz e => ?_)
  simp only [Bool.false_eq_true, if_false]
  refine wpAny_bind ?_
  rw [← Array.forIn_toList]
  simp only [List.forIn_cons, List.forIn_nil]
  refine wpAny_bind (wpAny_bind (wpAny_holding ?_))
  change wpAny _ _ (Builtin.SmallTypes.nextOf (.ref i1) >>= _) _ _ _
  cases gx : xs[k]? with
  | none => exact wpAny_bind (wpAny_nextOf_tuple_end (s := { s with heap := a }) hh (w1.extBut e.extBut ap.i1z) (t1.extBut e.extBut ap.l1z) gx fun b x kb hx => stop b x (fun c o n1 n2 _ r => kb _ _ n2 (e.extBut _ _ n1 r)) hx _)
  | some x =>
    have gy : ys[k]? = none := over.elim (fun r => by rw [gx] at r; cases r) id
    refine wpAny_bind (wpAny_nextOf_tuple_item (s := { s with heap := a }) (w1.extBut e.extBut ap.i1z) (t1.extBut e.extBut ap.l1z) gx fun b w1b eb => wpAny_pure (wpAny_pure (wpAny_bind (wpAny_bind (wpAny_holding ?_)))))
    change wpAny _ _ (Builtin.SmallTypes.nextOf (.ref i2) >>= _) _ _ _
    exact wpAny_bind (wpAny_nextOf_tuple_end (s := { s with heap := b }) hh ((w2.extBut e.extBut ap.i2z).extBut eb.extBut ap.i12.symm) ((t2.extBut e.extBut ap.l2z).extBut eb.extBut ap.l2i1) gy fun c x kc hx => stop c x (fun b o n1 n2 n3 r => kc _ _ n3 (eb.extBut _ _ n2 (e.extBut _ _ n1 r))) hx _)
/-- a zip of two tuples, i pairs drawn; its first pair, if there is one, lies behind S -/
def ZAt (h : Heap) (z TI TO i1 i2 l1 l2 S : Addr) (i : Nat) : Prop :=
  IsPair h TI (.ref i1) (.ref i2) ∧ h.IsTupleIter i1 l1 i ∧ h.IsTupleIter i2 l2 i ∧ ((IsZip h z TI TO .none ∧ ∃ a b, IsPair h TO a b) ∨ ∃ T f oT, IsZipHeld h z TI TO T f ∧ h.get? T = some oT ∧ S < T)
theorem zat_item {S : Addr} {x y : Value} {Q : Option Value → Shared → Prop} (ap : ZipApart z TI TO i1 i2 l1 l2) (st : ZAt s.heap z TI TO i1 i2 l1 l2 S k) (low : ∀ b ∈ [z, TI, TO, i1, i2], b < S) (hS : S < s.heap.objs.size) (t1 : s.heap.IsTuple l1 xs) (t2 : s.heap.IsTuple l2 ys) (gx : xs[k]? = some x) (gy : ys[k]? = some y)
    (q : ∀ h', ZAt h' z TI TO i1 i2 l1 l2 S (k + 1) → IsPair h' s.heap.objs.size x y → h'.objs.size = s.heap.objs.size + 1 → (∀ c o, c ∉ [z, TI, TO, i1, i2] → s.heap.get? c = some o → h'.get? c = some o) → Q (some (.ref s.heap.objs.size)) { s with heap := h' }) :
    wpAny (model prog w) A (pyNext (.ref z)) Q E s := by
  obtain ⟨hTI, w1, w2, ⟨hz, a, b, hTO⟩ | ⟨T, f, oT, hz, hT, hlt⟩⟩ := st
  · refine RZ.pyNext_zipT_item ap hz hTI hTO w1 w2 t1 t2 gx gy fun h' z' TO' w1' w2' hP hsz hk => ?_
    exact q h' ⟨hk _ _ ap.TIz ap.TITO ap.TIi1 ap.TIi2 hTI, w1', w2', .inr ⟨_, _, _, z', hP, hS⟩⟩ hP hsz fun c o hc e => hk c o (fun r => hc (by simp [r])) (fun r => hc (by simp [r])) (fun r => hc (by simp [r])) (fun r => hc (by simp [r])) e
  · refine zh_item ap hz hT hTI w1 w2 t1 t2 gx gy fun h' z' w1' w2' hP hsz hk => ?_
    have ne : ∀ b ∈ [z, TI, TO, i1, i2], T ≠ b := fun b hb r => by have := low b hb; rw [← r] at this; exact absurd (Nat.lt_trans hlt this) (Nat.lt_irrefl _)
    exact q h' ⟨hk _ _ ap.TIz ap.TIi1 ap.TIi2 hTI, w1', w2', .inr ⟨T, true, oT, z', hk _ _ (ne _ (by simp)) (ne _ (by simp)) (ne _ (by simp)) hT, hlt⟩⟩ hP hsz fun c o hc e => hk c o (fun r => hc (by simp [r])) (fun r => hc (by simp [r])) (fun r => hc (by simp [r])) e
theorem zat_end {S : Addr} {Q : Option Value → Shared → Prop} (hh : A.handled = none) (ap : ZipApart z TI TO i1 i2 l1 l2) (st : ZAt s.heap z TI TO i1 i2 l1 l2 S k) (t1 : s.heap.IsTuple l1 xs) (t2 : s.heap.IsTuple l2 ys) (over : xs[k]? = none ∨ ys[k]? = none)
    (q : ∀ h', (∀ c o, c ∉ [z, TI, TO, i1, i2] → s.heap.get? c = some o → h'.get? c = some o) → Q none { s with heap := h' }) : wpAny (model prog w) A (pyNext (.ref z)) Q E s := by
  obtain ⟨hTI, w1, w2, ⟨hz, a, b, hTO⟩ | ⟨T, f, oT, hz, hT, hlt⟩⟩ := st
  · exact RZ.pyNext_zipT_end hh ap hz hTI hTO w1 w2 t1 t2 over fun h' hk => q h' fun c o hc e => hk c o (fun r => hc (by simp [r])) (fun r => hc (by simp [r])) (fun r => hc (by simp [r])) (fun r => hc (by simp [r])) e
  · exact zh_end hh ap hz hT hTI w1 w2 t1 t2 over fun h' hk => q h' fun c o hc e => hk c o (fun r => hc (by simp [r])) (fun r => hc (by simp [r])) (fun r => hc (by simp [r])) e
end
/-- what a list of the pairs so far is -/
def Prs (H : Hp) (vs us : List V) (Ts : List Addr) : Prop := ∀ (j : Nat) (T : Addr), Ts[j]? = some T → ∃ a b, vs[j]? = some a ∧ us[j]? = some b ∧ H T = some (.tup [a, b])
theorem zt_loop {X : Cx} {pins : List (Addr × Obj)} {σ : Sg} {A : Around} {R : Result → Shared → Prop} (hh : A.handled = none) {z TI TO i1 i2 l1 l2 S : Addr} (ap : ZipApart z TI TO i1 i2 l1 l2) (low : ∀ b ∈ [z, TI, TO, i1, i2], b < S) (hl1 : l1 ≠ S) (hl2 : l2 ≠ S) {vs us : List V} {n : Nat} (hn : n = min vs.length us.length) (hsz : n ≤ sizeLine) (res : Value) :
    ∀ (m i : Nat) (s : Shared) (H : Hp) (Ts : List Addr) (c : Nat), n - i = m → i ≤ n → Inv X pins σ H s → SqT X.K H l1 vs → SqT X.K H l2 us → ZAt s.heap z TI TO i1 i2 l1 l2 S i →
      s.heap.get? S = some { cls := .type "list", dict := none, data := .seq (Ts.map Value.ref).toArray c, slots := #[] } → Ts.length = i → Prs H vs us Ts → (∀ b ∈ [z, TI, TO, i1, i2, S], FpOk X pins H b) →
      (∀ s' H' Ts' c', Inv X pins σ H' s' → L2.Same H H' → s'.heap.get? S = some { cls := .type "list", dict := none, data := .seq (Ts'.map Value.ref).toArray c', slots := #[] } → Ts'.length = n → Prs H' vs us Ts' → R (.ok (.ret res)) s') →
      codeAny (model X.prog X.w) A (.builtin "list.extend.loop" ⟨[.ref S, .ref z, res], []⟩) R s := by
  have S5 : S ∉ [z, TI, TO, i1, i2] := fun h => Nat.lt_irrefl _ (low S h)
  intro m
  induction m with
  | zero =>
    intro i s H Ts c hm hi I q1 q2 st hS hT hP hf fin
    have ei : i = n := by omega
    obtain ⟨its, rv, p, _⟩ := I.tuple q1
    obtain ⟨its2, rv2, p2, _⟩ := I.tuple q2
    have len1 := rv.length
    have len2 := rv2.length
    refine codeAny_builtin F.entry_extend_loop ?_
    rw [Around.under_plainId F.plain_extend_loop _]
    change wpAny _ A.in1 (pyNext (.ref z) >>= _) _ _ s
    refine wpAny_bind (zat_end hh ap st p p2 ?_ fun h' hk => wpAny_pure (fin { s with heap := h' } H Ts c ?_ (L2.Same.refl H) (hk S _ S5 hS) (by omega) hP))
    · have : vs.length ≤ i ∨ us.length ≤ i := by omega
      rcases this with r | r
      · exact .inl (by simp; omega)
      · exact .inr (by simp; omega)
    · exact I.turnedL (t' := s.toks) (ch := [z, TI, TO, i1, i2]) hk fun b hb => hf b (by simp at hb ⊢; rcases hb with r | r | r | r | r <;> simp [r])
  | succ m ih =>
    intro i s H Ts c hm hi I q1 q2 st hS hT hP hf fin
    obtain ⟨its, rv, p, _⟩ := I.tuple q1
    obtain ⟨its2, rv2, p2, _⟩ := I.tuple q2
    have hv : vs[i]? = some vs[i] := List.getElem?_eq_getElem (by omega)
    have hu : us[i]? = some us[i] := List.getElem?_eq_getElem (by omega)
    obtain ⟨x, gx, rx⟩ := rv.get hv
    obtain ⟨y, gy, ry⟩ := rv2.get hu
    have zS : S < s.heap.objs.size := Heap.lt_size hS
    refine codeAny_builtin F.entry_extend_loop ?_
    rw [Around.under_plainId F.plain_extend_loop _]
    change wpAny _ A.in1 (pyNext (.ref z) >>= _) _ _ s
    refine wpAny_bind (zat_item (x := x) (y := y) ap st low zS p p2 (by simpa using gx) (by simpa using gy) fun h' st' hP' hgr hk => ?_)
    have hS' := hk S _ S5 hS
    have fresh : H s.heap.objs.size = none := I.hok.fresh (Nat.le_refl _)
    have hf5 : ∀ b ∈ [z, TI, TO, i1, i2], FpOk X pins H b := fun b hb => hf b (by simp at hb ⊢; rcases hb with r | r | r | r | r <;> simp [r])
    have I1 : Inv X pins σ (upd H s.heap.objs.size (.tup [vs[i], us[i]])) { s with heap := h' } :=
      I.turnedNew (t' := s.toks) (ch := [z, TI, TO, i1, i2]) hk hf5 (Nat.le_refl _) ⟨by show 2 ≤ sizeLine; decide, [x, y], .cons rx (.cons ry .nil), ⟨_, hP', rfl, _, rfl⟩⟩
    have sm : L2.Same H (upd H s.heap.objs.size (.tup [vs[i], us[i]])) := same_new fresh
    have hfn : ∀ b ∈ [z, TI, TO, i1, i2, S], FpOk X pins (upd H s.heap.objs.size (.tup [vs[i], us[i]])) b := fun b hb => by
      obtain ⟨n1, r⟩ := hf b hb
      have lt : b < s.heap.objs.size := by
        have : b ∈ [z, TI, TO, i1, i2] ∨ b = S := by simp at hb ⊢; rcases hb with r | r | r | r | r | r <;> simp [r]
        rcases this with r | r
        · exact Nat.lt_trans (low b r) zS
        · rw [r]; exact zS
      exact ⟨by rw [upd_ne (Nat.ne_of_lt lt)]; exact n1, r⟩
    change wpAny _ A.in1 (updateSeq S (·.push _) >>= _) _ _ _
    have up : ∀ b o, b ≠ S → h'.get? b = some o → (h'.update S (Obj.mapSeq (·.push (.ref s.heap.objs.size)))).get? b = some o := fun b o hb e => (Heap.get?_update_other _ _ (Ne.symm hb)).trans e
    have push0 := Heap.get?_update_self (Obj.mapSeq (·.push (Value.ref s.heap.objs.size))) hS' rfl
    have arr : (Ts.map Value.ref).toArray.push (.ref s.heap.objs.size) = ((Ts ++ [s.heap.objs.size]).map Value.ref).toArray := by simp
    obtain ⟨c2, hc2⟩ : ∃ c2, (h'.update S (Obj.mapSeq (·.push (Value.ref s.heap.objs.size)))).get? S = some { cls := .type "list", dict := none, data := .seq ((Ts ++ [s.heap.objs.size]).map Value.ref).toArray c2, slots := #[] } := by
      rw [push0, ← arr]
      exact ⟨_, rfl⟩
    have ne5 : ∀ b ∈ [z, TI, TO, i1, i2], b ≠ S := fun b hb r => S5 (r ▸ hb)
    refine wpAny_bind (wpAny_updateSeq hS' rfl (wpAny_pure ⟨plainId_quiet F.plain_extend_loop _, ih (i + 1) _ (upd H s.heap.objs.size (.tup [vs[i], us[i]])) (Ts ++ [s.heap.objs.size]) c2 (by omega) (by omega) (I1.turnedL (t' := s.toks) (ch := [S]) (fun b o hb e => up b o (fun r => hb (by simp [r])) e) fun b hb => hfn b (by simp at hb; simp [hb])) (sqT_keep (O := fun _ => False) (fun a o e _ => sm a o e) (fun _ r => r.elim) q1) (sqT_keep (O := fun _ => False) (fun a o e _ => sm a o e) (fun _ r => r.elim) q2) ?_ ?_ (by rw [List.length_append, hT]; rfl) ?_ hfn fun s' H' Ts' c' J sm' => fin s' H' Ts' c' J (sm.trans sm')⟩)
      (by simp; omega) (by simp; omega))
    · obtain ⟨a1, a2, a3, a4⟩ := st'
      refine ⟨up _ _ (ne5 _ (by simp)) a1, a2.at fun o e => up _ _ (ne5 _ (by simp)) e, a3.at fun o e => up _ _ (ne5 _ (by simp)) e, ?_⟩
      rcases a4 with ⟨a4, a, b, a5⟩ | ⟨T, f, oT, a4, a5, a6⟩
      · exact .inl ⟨up _ _ (ne5 _ (by simp)) a4, a, b, up _ _ (ne5 _ (by simp)) a5⟩
      · exact .inr ⟨T, f, oT, up _ _ (ne5 _ (by simp)) a4, up _ _ (Nat.ne_of_gt a6) a5, a6⟩
    · exact hc2
    · intro j T hj
      by_cases hlt : j < Ts.length
      · rw [List.getElem?_append_left hlt] at hj
        obtain ⟨a, b, r1, r2, r3⟩ := hP j T hj
        exact ⟨a, b, r1, r2, sm _ _ r3⟩
      · have hj2 : j = i := by
          have := (List.getElem?_eq_some_iff.mp hj).1
          simp at this; omega
        subst hj2
        rw [List.getElem?_append_right (by omega), hT, Nat.sub_self] at hj
        cases hj
        exact ⟨_, _, hv, hu, upd_same⟩
theorem zt_collect {X : Cx} {pins : List (Addr × Obj)} {σ : Sg} {A : Around} {E : Value → Shared → Prop} {Q : List Value → Shared → Prop} {s : Shared} {H : Hp} (hh : A.handled = none) {z TI TO i1 i2 l1 l2 : Addr} {a b : Value} (ap : ZipApart z TI TO i1 i2 l1 l2) {vs us : List V} {n : Nat} (hn : n = min vs.length us.length) (hsz : n ≤ sizeLine)
    (I : Inv X pins σ H s) (q1 : SqT X.K H l1 vs) (q2 : SqT X.K H l2 us) (hz : IsZip s.heap z TI TO .none) (hTI : IsPair s.heap TI (.ref i1) (.ref i2)) (hTO : IsPair s.heap TO a b) (w1 : s.heap.IsTupleIter i1 l1 0) (w2 : s.heap.IsTupleIter i2 l2 0) (hf : ∀ b ∈ [z, TI, TO, i1, i2], FpOk X pins H b)
    (fin : ∀ s' H' Ts, Inv X pins σ H' s' → L2.Same H H' → Ts.length = n → Prs H' vs us Ts → Q (Ts.map Value.ref) s') : wpAny (model X.prog X.w) A (collect (.ref z)) Q E s := by
  obtain ⟨its, rv, p, _⟩ := I.tuple q1
  obtain ⟨its2, rv2, p2, _⟩ := I.tuple q2
  have zl : z < s.heap.objs.size := Heap.lt_size hz
  have low : ∀ b ∈ [z, TI, TO, i1, i2], b < s.heap.objs.size := fun b hb => by
    obtain ⟨_, e1, _⟩ := id w1
    obtain ⟨_, e2, _⟩ := id w2
    simp only [List.mem_cons, List.not_mem_nil, or_false] at hb
    rcases hb with rfl | rfl | rfl | rfl | rfl
    · exact zl
    · exact Heap.lt_size hTI
    · exact Heap.lt_size hTO
    · exact Heap.lt_size e1
    · exact Heap.lt_size e2
  have n1 : l1 ≠ s.heap.objs.size := by obtain ⟨_, e, _⟩ := id p; exact Nat.ne_of_lt (Heap.lt_size e)
  have n2 : l2 ≠ s.heap.objs.size := by obtain ⟨_, e, _⟩ := id p2; exact Nat.ne_of_lt (Heap.lt_size e)
  unfold collect
  refine wpAny_bind (wpAny_runValue (codeAny_builtin F.entry_proto_collect ?_))
  rw [Around.under_plainId F.plain_proto_collect _]
  change wpAny _ A.in1 (newList [] >>= fun l' => again (.builtin "list.__iadd__" ⟨[l', .ref z], []⟩)) _ _ s
  refine wpAny_bind (wpAny_newObj_type (wpAny_pure ⟨plainId_quiet F.plain_list_iadd _, codeAny_builtin F.entry_list_iadd ?_⟩))
  rw [Around.under_plainId F.plain_list_iadd _]
  have made : (s.heap.push { cls := .type "list", data := .seq ([] : List Value).toArray }).get? s.heap.objs.size = some { cls := .type "list", data := .seq ([] : List Value).toArray } := Heap.get?_push_size _ rfl
  have hz1 : IsZip (s.heap.push { cls := .type "list", data := .seq ([] : List Value).toArray }) z TI TO .none := Heap.get?_push_of_some _ hz
  have up1 : ∀ b o, s.heap.get? b = some o → (s.heap.push { cls := .type "list", data := .seq ([] : List Value).toArray }).get? b = some o := fun b o e => Heap.get?_push_of_some _ e
  generalize hp : s.heap.push { cls := .type "list", data := .seq ([] : List Value).toArray } = h1 at *
  have ty : ({ s with heap := h1 } : Shared).TypeIs (.ref z) "zip" := ⟨_, hz1, rfl⟩
  have other : Builtin.List.listSameRef (.ref s.heap.objs.size) (.ref z) = false := by
    have : s.heap.objs.size ≠ z := Nat.ne_of_gt zl
    simp [Builtin.List.listSameRef, this]
  change wpAny _ A.in1 (Builtin.List.listExtendWith (.ref s.heap.objs.size) (.ref z) (.ref s.heap.objs.size)) _ _ _
  unfold Builtin.List.listExtendWith
  refine wpAny_bind (wpAny_typeOf ty ?_)
  rw [if_neg (by rw [other]; decide)]
  refine wpAny_bind (wpAny_pyIter_zip (s := { s with heap := h1 }) hz1 (wpAny_bind (wpAny_holding ?_)))
  unfold Builtin.List.listLengthHint
  refine wpAny_bind (wpAny_specialOf ty zip_nolen ?_)
  change wpAny _ A.in1 (specialOf (Value.ref z) (Str.ofString "__length_hint__") >>= _) _ _ _
  refine wpAny_bind (wpAny_specialOf ty zip_nohint (wpAny_pure ?_))
  change wpAny _ A.in1 (rule "list.extend.makes-room" >>= fun _ => Builtin.List.listTouch (.ref s.heap.objs.size) >>= fun _ => again (.builtin "list.extend.loop" ⟨[.ref s.heap.objs.size, .ref z, .ref s.heap.objs.size], []⟩)) _ _ _
  refine wpAny_bind (wpAny_rule (wpAny_bind ?_))
  change wpAny _ A.in1 (updateSeq s.heap.objs.size (·.push .none) >>= fun _ => updateSeq s.heap.objs.size (·.pop)) _ _ _
  have made2 := Heap.get?_update_self (Obj.mapSeq (·.push Value.none)) made rfl
  have made3 := Heap.get?_update_self (Obj.mapSeq (·.pop)) made2 rfl
  have up : ∀ b o, s.heap.get? b = some o → ((h1.update s.heap.objs.size (Obj.mapSeq (·.push Value.none))).update s.heap.objs.size (Obj.mapSeq (·.pop))).get? b = some o := fun b o e => by
    have ne : s.heap.objs.size ≠ b := Nat.ne_of_gt (Heap.lt_size e)
    exact (Heap.get?_update_other _ _ ne).trans ((Heap.get?_update_other _ _ ne).trans (up1 _ _ e))
  obtain ⟨c0, made4⟩ : ∃ c0, ((h1.update s.heap.objs.size (Obj.mapSeq (·.push Value.none))).update s.heap.objs.size (Obj.mapSeq (·.pop))).get? s.heap.objs.size = some { cls := .type "list", dict := none, data := .seq (([] : List Addr).map Value.ref).toArray c0, slots := #[] } := by
    rw [made3]
    exact ⟨_, rfl⟩
  refine wpAny_bind (wpAny_updateSeq (s := { s with heap := h1 }) made rfl (wpAny_updateSeq (s := { s with heap := h1.update s.heap.objs.size (Obj.mapSeq (·.push Value.none)) }) made2 rfl ?_))
  generalize (h1.update s.heap.objs.size (Obj.mapSeq (·.push Value.none))).update s.heap.objs.size (Obj.mapSeq (·.pop)) = h2 at *
  have I1 : Inv X pins σ H { s with heap := h2 } := I.kept (t' := s.toks) up
  refine wpAny_pure ⟨plainId_quiet F.plain_extend_loop _, zt_loop hh ap low n1 n2 hn hsz _ n 0 { s with heap := h2 } H [] c0 (Nat.sub_zero _) (Nat.zero_le _) I1 q1 q2 ⟨up _ _ hTI, w1.at fun o e => up _ _ e, w2.at fun o e => up _ _ e, .inl ⟨up _ _ hz, a, b, up _ _ hTO⟩⟩ made4 rfl (fun j T hj => by cases hj) (fun b hb => ?_) fun s' H' Ts c' J sm hS hl hP => ?_⟩
  · have : b ∈ [z, TI, TO, i1, i2] ∨ b = s.heap.objs.size := by simp at hb ⊢; rcases hb with r | r | r | r | r | r <;> simp [r]
    rcases this with r | r
    · exact hf b r
    · rw [r]; exact I.fpOk (Nat.le_refl _) (I.hok.fresh (Nat.le_refl _))
  · change wpAny _ A (load s.heap.objs.size >>= _) _ _ s'
    refine wpAny_bind (wpAny_load hS (wpAny_pure ?_))
    have := fin s' H' Ts J sm hl hP
    simpa using this
theorem zt_new {X : Cx} {pins : List (Addr × Obj)} {σ : Sg} {A : Around} {E : Value → Shared → Prop} {Q : Value → Shared → Prop} {s : Shared} {H : Hp} (hh : A.handled = none) {z TI TO i1 i2 l1 l2 : Addr} {a b : Value} (ap : ZipApart z TI TO i1 i2 l1 l2) {vs us : List V} {n : Nat} (hn : n = min vs.length us.length) (hsz : n ≤ sizeLine)
    (I : Inv X pins σ H s) (q1 : SqT X.K H l1 vs) (q2 : SqT X.K H l2 us) (hz : IsZip s.heap z TI TO .none) (hTI : IsPair s.heap TI (.ref i1) (.ref i2)) (hTO : IsPair s.heap TO a b) (w1 : s.heap.IsTupleIter i1 l1 0) (w2 : s.heap.IsTupleIter i2 l2 0) (hf : ∀ b ∈ [z, TI, TO, i1, i2], FpOk X pins H b)
    (fin : ∀ s' H' Ts P, Inv X pins σ (upd H' P (.tup (Ts.map V.ref))) s' → L2.Same H H' → H' P = none → Ts.length = n → Prs H' vs us Ts → Q (.ref P) s') : wpAny (model X.prog X.w) A (call (.type "tuple") [.ref z]) Q E s := by
  have ty : s.TypeIs (.ref z) "zip" := ⟨_, hz, rfl⟩
  refine callType_codes (Q₁ := fun obj t => t.TypeIs obj "tuple" ∧ Q obj t) F.called_tuple (F.typeCall_tuple_1 _) F.entry_object_init (codeAny_of_tree ?_) fun obj t ht => ⟨ht.1, F.args_object_init_2 obj _, object_init_meets F.called_tuple.init.lookup F.called_tuple.made (by decide) X.prog X.w A.in1 _ t ⟨ht.1, rfl, ht.2⟩⟩
  change wpAny _ A.in1.in1 (do checkBuiltinCall "tuple.__new__" ⟨[.type "tuple", .ref z], []⟩; again (.builtin "tuple.__new__" ⟨[.type "tuple", .ref z], []⟩)) _ _ s
  refine wpAny_bind (wpAny_of_eq (F.newCall_tuple_1 _) (wpAny_pure ⟨plainId_quiet F.plain_tuple_new _, codeAny_builtin F.entry_tuple_new ?_⟩))
  rw [Around.under_plainId F.plain_tuple_new _]
  have f1 := sub_tuple_self
  have f2 := init_tuple_lookup
  have f3 := madeHere_tuple
  wp_walk using wpAny_typeOf ty, zt_collect (A := A.in1.in1) hh ap hn hsz I q1 q2 hz hTI hTO w1 w2 hf
  intro t H' Ts J sm hl hP
  change wpAny _ _ (Builtin.Tuple.tupleExact (Ts.map Value.ref).toArray >>= fun v => ret v) _ _ _
  unfold Builtin.Tuple.tupleExact
  refine wpAny_bind (wpAny_newObj_type ?_ (by show (Ts.map Value.ref).toArray.size ≤ sizeLine; simp; omega))
  refine wpAny_pure ⟨⟨_, Heap.get?_push_size _ rfl, rfl⟩, fin _ H' Ts t.heap.objs.size ?_ sm (J.hok.fresh (Nat.le_refl _)) hl hP⟩
  refine J.laid (t' := t.toks) (fun c o e => Heap.get?_push_of_some _ e) (Nat.le_refl _) (show ObjOk X.prog X.w _ _ _ (.tup (Ts.map V.ref)) from ⟨by rw [List.length_map]; omega, Ts.map Value.ref, ?_, IsTup.new _ _⟩)
  have : ∀ Ts : List Addr, Vals (Ts.map V.ref) (Ts.map Value.ref) := fun Ts => by
    induction Ts with
    | nil => exact .nil
    | cons T r ih => exact .cons rfl ih
  exact this Ts
theorem intsD_map : ∀ {xs : List D} {ns : List Int}, intsD xs = some ns → xs = ns.map .int
  | [], _, h => by cases h; rfl
  | .int i :: r, _, h => by
    obtain ⟨ns, h1, rfl⟩ := Option.map_eq_some_iff.mp h
    rw [intsD_map h1]; rfl
theorem reps_int {K : PySem.W.Frag} {O : Addr → Prop} {H : Hp} : ∀ {ns : List Int} {vs : List V}, Reps K O H vs (ns.map .int) → vs = ns.map .int
  | [], _, h => by cases h; rfl
  | n :: r, _, h => by
    cases h with
    | cons a b =>
      cases a
      rw [reps_int b]; rfl
theorem reps_zp {K : PySem.W.Frag} {O : Addr → Prop} {H : Hp} : ∀ {Ts : List Addr} {ns ms : List Int}, Ts.length = min ns.length ms.length → Prs H (ns.map .int) (ms.map .int) Ts → Reps K O H (Ts.map .ref) ((ns.zip ms).map pqD)
  | [], [], _, _, _ => .nil
  | [], _ :: _, [], _, _ => .nil
  | [], _ :: _, _ :: _, h, _ => by simp at h
  | T :: r, [], _, h, _ => by simp at h
  | T :: r, _ :: _, [], h, _ => by simp at h
  | T :: r, n :: ns, m :: ms, h, hp => by
    obtain ⟨a, b, h1, h2, h3⟩ := hp 0 T rfl
    cases h1
    cases h2
    exact .cons (.tup (SqT.of h3) (.cons (.int _) (.cons (.int _) .nil))) (reps_zp (by simp at h; omega) fun j U hj => by
      obtain ⟨a, b, g1, g2, g3⟩ := hp (j + 1) U (by simpa using hj)
      exact ⟨a, b, by simpa using g1, by simpa using g2, g3⟩)
theorem e_tzip {X : Cx} {a b : Expr} {p p2 q pos : Pos} {fa : En → Option (List D)} {lk : List Nat} (hc : X.calm = true) (hg : Gl X "tuple") (hm : X.mg "tuple" = none) (hg2 : Gl X "zip") (hm2 : X.mg "zip" = none) (h : PA X [a, b] (tAC X.K fa lk)) (hs : isStar a = false) (hs2 : isStar b = false) :
    PE X (.Call (.Name "tuple" p) [.Call (.Name "zip" p2) [a, b] [] q] [] pos) (tE X.K (fun env => (fa env).bind tzipF) lk) := by
  refine ⟨fun pins s σ H Q I ⟨Ox, Hb, env, r, R, e0, k⟩ => ?_⟩
  obtain ⟨ds, e1, e2⟩ := Option.bind_eq_some_iff.mp e0
  unfold tzipF at e2
  split at e2
  case h_2 => cases e2
  rename_i xs ys
  obtain ⟨ns, e3, e4⟩ := Option.bind_eq_some_iff.mp e2
  obtain ⟨ms, e5, rfl⟩ := Option.map_eq_some_iff.mp e4
  have hz := intsD_map e3
  have hy := intsD_map e5
  subst hz hy
  refine Call_ (ld_blt I hg hm boot_tuple (PyProof.Rows.callWith_type1 (args_cons (Call_ (ld_blt I hg2 hm2 PyProof.Rows.boot_zip (PyProof.Rows.callWith_type1 (thn (h.run q pins s σ H (fun vs H1 => (∃ l1 l2, vs = [.ref l1, .ref l2] ∧ SqT X.K H1 l1 (ns.map .int) ∧ SqT X.K H1 l2 (ms.map .int)) ∧ L2.Same H H1) I ⟨Ox, Hb, env, _, R, e1, fun vs H1 s1 rc => ?_⟩) fun us t ⟨vs, H1, I1, rel, ex, sm⟩ => ?_) (by rw [star_cons hs]) (star_any (by rw [List.all_cons, hs2]; rfl))))) (by rfl)) (by rfl)))
  · cases rc with
    | cons r1 rc =>
      cases rc with
      | cons r2 rc =>
        cases rc
        obtain ⟨l1, us1, rfl, q1 | q1, w1⟩ := rc_items r1 (show items (.tuple (ns.map .int)) = some _ from rfl)
        · cases q1.2
        obtain ⟨l2, us2, rfl, q2 | q2, w2⟩ := rc_items r2 (show items (.tuple (ms.map .int)) = some _ from rfl)
        · cases q2.2
        have z1 := reps_int w1
        have z2 := reps_int w2
        subst z1 z2
        exact ⟨⟨l1, l2, rfl, q1.1, q2.1⟩, s1⟩
  · obtain ⟨l1, l2, rfl, q1, q2⟩ := ex
    cases rel with
    | cons r1 rel =>
      cases rel with
      | cons r2 rel =>
        cases rel
        cases r1
        cases r2
        obtain ⟨i1, _, p1, n1⟩ := I1.tuple q1
        obtain ⟨i2, _, p2, n2⟩ := I1.tuple q2
        have a1 : l1 < t.heap.objs.size := by obtain ⟨_, e, _⟩ := id p1; exact Heap.lt_size e
        have a2 : l2 < t.heap.objs.size := by obtain ⟨_, e, _⟩ := id p2; exact Heap.lt_size e
        have five : ∀ c ∈ [t.heap.objs.size + 4, t.heap.objs.size + 2, t.heap.objs.size + 3, t.heap.objs.size, t.heap.objs.size + 1], FpOk X pins H1 c := fun c hcm => I1.fpOk (new5 hcm) (I1.hok.fresh (new5 hcm))
        refine RZ.call_zipT (show t.heap.IsTuple l1 i1.toArray from p1) (show t.heap.IsTuple l2 i2.toArray from p2) fun h' hz hTI hTO h1 h2 hsz hk => args_nil ?_
        refine zt_new (I1.ok.hd hc) (PySem.W.ktu_apart t.heap.objs.size l1 l2 a1 a2) rfl (by omega) (I1.kept (t' := t.toks) hk) q1 q2 hz hTI hTO h1 h2 five fun s' H' Ts P J sm' hP hl hprs => ?_
        rw [List.length_map, List.length_map] at hl
        exact ⟨.ref P, _, J, rfl, k _ _ ((sm.trans sm').trans (same_new hP)) (RR.back (rr_t hP (reps_zp hl hprs) (R.ext' (sm.trans sm')).lst) (sm.trans sm'))⟩
theorem e_trev {X : Cx} {a : Expr} {p p2 q pos : Pos} {fa : En → Option RV} {la : List Nat} (hc : X.calm = true) (hg : Gl X "tuple") (hm : X.mg "tuple" = none) (hg2 : Gl X "reversed") (hm2 : X.mg "reversed" = none) (ha : PE X a (tC X.K fa la)) (hs : isStar a = false) :
    PE X (.Call (.Name "tuple" p) [.Call (.Name "reversed" p2) [a] [] q] [] pos) (tE X.K (fun env => (fa env).bind fun x => trevF [x.d]) la) :=
  pe_mono (RT.pe_tupRev hc hg hm hg2 hm2 ha (star_cons hs)) fun σ H Q ⟨Ox, Hb, env, r, R, e, k⟩ => by
    obtain ⟨x, e1, e2⟩ := Option.bind_eq_some_iff.mp e
    obtain ⟨xs, hx, rfl⟩ : ∃ xs, x.d = .list xs ∧ r = .v (.tuple xs.reverse) := by
      cases hd : x.d with
      | list xs => rw [hd] at e2; cases e2; exact ⟨xs, rfl, rfl⟩
      | _ => rw [hd] at e2; cases e2
    refine ⟨Ox, Hb, env, x, R, e1, fun v H1 s1 c1 => ?_⟩
    rw [hx] at c1
    obtain ⟨l, vs, rfl, q1 | q1, w1⟩ := rc_items c1 (show items (.list xs) = some xs from rfl)
    · exact ⟨l, vs, rfl, .inl (.inl q1.1), fun b hb => k _ _ (s1.trans (same_new hb)) (RR.back (rr_t hb w1.reverse (R.ext' s1).lst) s1)⟩
    · cases q1.2
end Wi

namespace Wi
open PySem PySem.Spec PyProof.Rows L2
/-- methods (class, place, number of parameters), classes and their attributes, attributes and their class, whole numbers, a def that two levels are needed for -/
structure Tb where
  mt : List (Str × Str × Nat × Nat)
  cl : List (Str × List Str)
  fl : List (Str × Str)
  cs : List (Str × Int)
  pr : Nat
def Tb.no : Tb := ⟨[], [], [], [], 0⟩
structure C where
  N : List Str
  sc : Scope
  own : List Str
  fn : List (Str × Nat × Nat)
  bt : List Str
  lib : List (Str × String)
  tb : Tb
def ixOf : List Str → Str → Option Nat
  | [], _ => none
  | y :: r, x => if y = x then some 0 else (ixOf r x).map (· + 1)
theorem ixOf_get : ∀ {N : List Str} {x : Str} {i : Nat}, ixOf N x = some i → N[i]? = some x
  | [], _, _, h => by cases h
  | y :: r, x, i, h => by
    unfold ixOf at h
    split at h
    · rename_i e; cases h; subst e; rfl
    · obtain ⟨j, e1, rfl⟩ := Option.map_eq_some_iff.mp h
      simpa using ixOf_get e1
def visB (sc : Scope) (x : Str) : Bool := match sc.names.lookup x with
  | some .local => true
  | some .cell => true
  | some .free => true
  | _ => false
theorem visB_ok {sc : Scope} {x : Str} (h : visB sc x = true) : Vis sc x := by
  unfold visB at h
  split at h
  · rename_i q; exact .inl q
  · rename_i q; exact .inr (.inl q)
  · rename_i q; exact .inr (.inr q)
  · cases h
def glB (sc : Scope) (x : Str) : Bool := match sc.names.lookup x with
  | some .globalImplicit => true
  | _ => false
def okName (x : Str) : Bool := !(x == ("__debug__" : Str)) && !(x == ("__classdict__" : Str)) && !(x == ("__name__" : Str))
theorem okName_ok {x : Str} (h : okName x = true) : (x == ("__debug__" : Str)) = false ∧ (x == ("__classdict__" : Str)) = false ∧ x ≠ ("__name__" : Str) := by
  unfold okName at h
  rw [Bool.and_eq_true, Bool.and_eq_true, Bool.not_eq_true', Bool.not_eq_true', Bool.not_eq_true'] at h
  exact ⟨h.1.1, h.1.2, fun z => by have := h.2; rw [z] at this; simp at this⟩
def C.slot (c : C) (x : Str) : Option Nat := if (visB c.sc x && okName x) = true then ixOf c.N x else none
def C.gl (c : C) (x : Str) : Bool := glB c.sc x && okName x
/-- a built-in at hand -/
def C.bi (c : C) (x : Str) : Bool := c.gl x && c.bt.contains x
structure XOk (c : C) (X : Cx) (F : FE) : Prop where
  N : X.N = c.N
  nd : c.N.Nodup
  sc : X.env.scope = c.sc
  kind : c.sc.kind = .function
  calm : X.calm = true
  xe : X.xe = fun _ _ => False
  own : ∀ x ∈ c.own, Loc X.env.scope x ∧ (X.fn x = true ∨ X.env.scope.names.lookup x = some .local)
  fns : ∀ x j n, c.fn.lookup x = some (j, n) → ∃ f fd ps k, FnOk X.prog X.w X.K X.mg X.base CX0 k f fd ps (spD X.K n (F j)) ∧ Room k X.A ∧ X.mg x = some (.ref f) ∧ PySem.W.keepIn X.K (.ref f) = true ∧ Binds X.K fd ps []
  bts : ∀ x, c.bt.contains x = true → X.mg x = none
  lib : ∀ x id, c.lib.lookup x = some id → X.mg x = some (.builtin id)
  hu : X.A.units + 100 < cLine
  mts : ∀ m k j n, c.tb.mt.lookup m = some (k, j, n) → ∃ C f fd ps kk, CK X.K C k ∧ Cls X.K C ∧ Meth X.K C m f ∧ FnOk X.prog X.w X.K X.mg X.base CX0 kk f fd ps (spD X.K n (F j)) ∧ Room kk X.A ∧ Binds X.K fd ps []
  cls : ∀ k ns, c.tb.cl.lookup k = some ns → ∃ C f fd ps, CK X.K C k ∧ Mk X.K C f ∧ FnOk X.prog X.w X.K X.mg X.base CX0 1 f fd ps (spI C ns) ∧ X.mg k = some (.ref C) ∧ Binds X.K fd ps []
  rm : ∀ k ns, c.tb.cl.lookup k = some ns → ∀ r, F c.tb.pr [] = some r → Room 2 X.A
  fls : ∀ f k, c.tb.fl.lookup f = some k → ∃ C, CK X.K C k ∧ Cls X.K C ∧ NoAttr X.K C f
  csts : ∀ x i, c.tb.cs.lookup x = some i → ∃ t, X.mg x = some (.int i t)
section
variable {c : C} {X : Cx} {F : FE}
theorem XOk.slotv (o : XOk c X F) {x : Str} {i : Nat} (h : c.slot x = some i) : X.N[i]? = some x ∧ Vis X.env.scope x ∧ (x == ("__debug__" : Str)) = false ∧ (x == ("__classdict__" : Str)) = false := by
  unfold C.slot at h
  split at h
  · rename_i q
    rw [Bool.and_eq_true] at q
    obtain ⟨h1, h2, h3⟩ := okName_ok q.2
    exact ⟨by rw [o.N]; exact ixOf_get h, by rw [o.sc]; exact visB_ok q.1, h1, h2⟩
  · cases h
theorem XOk.glv (o : XOk c X F) {x : Str} (h : c.gl x = true) : Gl X x ∧ (x == ("__debug__" : Str)) = false ∧ x ≠ ("__name__" : Str) := by
  unfold C.gl at h
  rw [Bool.and_eq_true] at h
  obtain ⟨h1, h2, h3⟩ := okName_ok h.2
  refine ⟨?_, h1, h3⟩
  have := h.1
  unfold glB at this
  split at this
  · rename_i q
    show X.env.scope.names.lookup x = _
    rw [o.sc]; exact q
  · cases this
theorem XOk.biv (o : XOk c X F) {x : Str} (h : c.bi x = true) : Gl X x ∧ (x == ("__debug__" : Str)) = false ∧ x ≠ ("__name__" : Str) ∧ X.mg x = none := by
  unfold C.bi at h
  rw [Bool.and_eq_true] at h
  obtain ⟨h1, h2, h3⟩ := o.glv h.1
  exact ⟨h1, h2, h3, o.bts x h.2⟩
end
def binOp : Operator → Option O2
  | .Add => some .add
  | .Sub => some .sub
  | .Mult => some .mul
  | .FloorDiv => some .fdiv
  | .Mod => some .mod
  | .Pow => some .pow
  | _ => none
theorem binOp_ok {X : Cx} {op : Operator} {o : O2} (h : binOp op = some o) : OpR X (binaryOp op) (rO X.K (o2 o)) := by
  cases op <;> first | (cases h; done) | skip
  · cases h; exact o_add
  · cases h; exact o_sub
  · cases h; exact o_mul
  · cases h; exact o_mod
  · cases h; exact o_pow
  · cases h; exact o_fdiv
def cmpOp : CmpOp → Option Cm
  | .Eq => some .eq
  | .NotEq => some .ne
  | .Lt => some .lt
  | .LtE => some .le
  | .Gt => some .gt
  | .GtE => some .ge
  | .Is => some .is_
  | .IsNot => some .isnt
  | .In => some .inn
  | .NotIn => some .nin
theorem cmpOp_ok {X : Cx} (hu : X.A.units + 100 < cLine) {op : CmpOp} {o : Cm} (h : cmpOp op = some o) : OpR X (compareOp op) (rK X.K (cm o)) := by
  cases op <;> cases h
  · exact k_eq hu
  · exact k_ne hu
  · exact k_lt
  · exact k_le
  · exact k_gt
  · exact k_ge
  · exact k_is
  · exact k_isnt
  · exact k_in hu
  · exact k_nin hu
def notSet : Expr → Bool
  | .Set .. => false
  | _ => true
theorem marks_no {op : CmpOp} {e : Expr} (h : notSet e = true) : behindInMarks op e = false := by
  cases e <;> first | rfl | cases h
def biB (x : Str) : Option B :=
  if x = "len" then some .len else if x = "sum" then some .sum else if x = "max" then some .mx else if x = "min" then some .mn else if x = "all" then some .all else
  if x = "any" then some .any else if x = "sorted" then some .sorted else if x = "abs" then some .abs else if x = "divmod" then some .divmod else none
theorem biB_ok {X : Cx} (hc : X.calm = true) (hu : X.A.units + 100 < cLine) {x : Str} {b : B} (h : biB x = some b) : ∃ id, bootBuiltins x = some (.builtin id) ∧ CallR X (.builtin id) (rB X.K (bF b)) := by
  unfold biB at h
  split at h
  · rename_i e; subst e; cases h; exact ⟨_, PySem.boot_len, b_len⟩
  · split at h
    · rename_i e; subst e; cases h; exact ⟨_, by decide +kernel, b_sum hc⟩
    · split at h
      · rename_i e; subst e; cases h; exact ⟨_, by decide +kernel, b_mx hc hu⟩
      · split at h
        · rename_i e; subst e; cases h; exact ⟨_, by decide +kernel, b_mn hc hu⟩
        · split at h
          · rename_i e; subst e; cases h; exact ⟨_, by decide +kernel, b_all hc⟩
          · split at h
            · rename_i e; subst e; cases h; exact ⟨_, by decide +kernel, b_any hc⟩
            · split at h
              · rename_i e; subst e; cases h; exact ⟨_, by decide +kernel, b_sorted⟩
              · split at h
                · rename_i e; subst e; cases h; exact ⟨_, by decide +kernel, b_abs⟩
                · split at h
                  · rename_i e; subst e; cases h; exact ⟨_, by decide +kernel, b_divmod⟩
                  · cases h
def biT (x : Str) : Option B :=
  if x = "tuple" then some .tuple else if x = "list" then some .list else if x = "int" then some .int else none
theorem biT_ok {X : Cx} {x : Str} {b : B} (h : biT x = some b) : ∃ T, bootBuiltins x = some (.type T) ∧ CallR X (.type T) (rB X.K (bF b)) := by
  unfold biT at h
  split at h
  · rename_i e; subst e; cases h; exact ⟨_, by decide +kernel, b_tuple⟩
  · split at h
    · rename_i e; subst e; cases h; exact ⟨_, by decide +kernel, b_list⟩
    · split at h
      · rename_i e; subst e; cases h; exact ⟨_, by decide +kernel, b_int⟩
      · cases h
def biL (id : String) : Option B := if id = "math.gcd" then some .gcd else if id = "math.lcm" then some .lcm else none
theorem biL_ok {X : Cx} {id : String} {b : B} (h : biL id = some b) : CallR X (.builtin id) (rB X.K (bF b)) := by
  unfold biL at h
  split at h
  · rename_i e; subst e; cases h; exact b_gcd
  · split at h
    · rename_i e; subst e; cases h; exact b_lcm
    · cases h
def tyOfName (x : Str) : Option Ty :=
  if x = Str.ofString "int" then some .int else if x = Str.ofString "bool" then some .bool else if x = Str.ofString "tuple" then some .tuple else if x = Str.ofString "list" then some .list else if x = Str.ofString "str" then some .str else none
theorem tyOfName_ok {x : Str} {t : Ty} (h : tyOfName x = some t) : x = Str.ofString (tyName t) := by
  unfold tyOfName at h
  split at h
  · cases h; assumption
  · split at h
    · cases h; assumption
    · split at h
      · cases h; assumption
      · split at h
        · cases h; assumption
        · split at h
          · cases h; assumption
          · cases h
def cL (f : Expr → Option E) : List Expr → Option (List E)
  | [] => some []
  | e :: es => (f e).bind fun x => (cL f es).map (x :: ·)
def foldB (op : BoolOp) : List E → Option E
  | [] => none
  | [x] => some x
  | x :: y :: r => (foldB op (y :: r)).map fun z => match op with
    | .And => .and x z
    | .Or => .or x z
def cO (f : Expr → Option E) : Option Expr → Option (Option E)
  | none => some none
  | some e => (f e).map some
mutual
def cT (c : C) : Expr → Option Tg
  | .Name x _ => if c.own.contains x = true then (c.slot x).map .n else none
  | .Tuple es _ _ => (cTs c es).map .t
  | _ => none
def cTs (c : C) : List Expr → Option (List Tg)
  | [] => some []
  | e :: es => (cT c e).bind fun t => (cTs c es).map (t :: ·)
end
def isTup : Expr → Bool
  | .Tuple .. => true
  | _ => false
/-- enumerate of a zip, of a list turned round -/
def ezA (c : C) : Expr → Option (SK × List Expr)
  | .Call (.Name y _) [a, b] [] _ => if (y == ("zip" : Str) && c.bi y) = true then some (.ez, [a, b]) else none
  | .Call (.Name y _) [a] [] _ => if (y == ("reversed" : Str) && c.bi y) = true then some (.er, [a]) else none
  | _ => none
/-- what a for or a comprehension walks -/
def cI (f : Expr → Option E) (c : C) (tg : Expr) : Expr → Option (SK × List E)
  | .Call (.Name x p) [a] [] q =>
    if (x == ("range" : Str) && c.bi x) = true then (f a).map fun y => (.rng, [y])
    else if (x == ("enumerate" : Str) && c.bi x && isTup tg) = true then (match ezA c a with
      | some q => (cL f q.2).map fun ys => (q.1, ys)
      | none => (f a).map fun y => (.enum, [y]))
    else if (x == ("reversed" : Str) && c.bi x) = true then (f a).map fun y => (.rev, [y])
    else (f (.Call (.Name x p) [a] [] q)).map fun y => (.val, [y])
  | .Call (.Name x p) [a, b] [] q =>
    if (x == ("range" : Str) && c.bi x) = true then (f a).bind fun y => (f b).map fun z => (.rng, [y, z])
    else if (x == ("zip" : Str) && c.bi x && isTup tg) = true then (f a).bind fun y => (f b).map fun z => (.zip, [y, z])
    else (f (.Call (.Name x p) [a, b] [] q)).map fun y => (.val, [y])
  | .Call (.Name x p) [a, b, d] [] q =>
    if (x == ("range" : Str) && c.bi x) = true then (f a).bind fun y => (f b).bind fun z => (f d).map fun w => (.rng, [y, z, w])
    else (f (.Call (.Name x p) [a, b, d] [] q)).map fun y => (.val, [y])
  | e => (f e).map fun y => (.val, [y])
def blkOwn (c : C) (scope : Scope) : List (Str × Nat) := scope.names.filterMap fun y => match y.2 with
  | .local => (ixOf c.N y.1).map fun i => (y.1, i)
  | .cell => (ixOf c.N y.1).map fun i => (y.1, i)
  | _ => none
def C.blk (c : C) (scope : Scope) : C := { c with sc := relS scope c.sc, own := (blkOwn c scope).map (·.1) }
/-- list(range(..)), tuple(range(..)), tuple(reversed(..)), tuple(zip(..)) -/
def lrgE (c : C) (x : Str) : List Expr → Option (B × List Expr)
  | [.Call (.Name y _) es [] _] => if (y == ("range" : Str) && c.bi ("range" : Str)) = true then
      (if x = ("list" : Str) ∧ (es.length = 1 ∨ es.length = 2 ∨ es.length = 3) then some (.lrg, es) else if x = ("tuple" : Str) ∧ es.length = 1 then some (.trg, es) else none)
    else if (y == ("reversed" : Str) && c.bi ("reversed" : Str)) = true then (if x = ("tuple" : Str) ∧ es.length = 1 then some (.trev, es) else none)
    else if (y == ("zip" : Str) && c.bi ("zip" : Str)) = true then (if x = ("tuple" : Str) ∧ es.length = 2 then some (.tzip, es) else none) else none
  | _ => none
def cM (f : Expr → Option E) (c : C) (a : Expr) (m : Str) (es : List Expr) (ln : Bool) : Option E :=
  if (recvB a && ln && decide (es.length < 30)) = true then (c.tb.mt.lookup m).bind fun q => if es.length + 1 = q.2.2 then (f a).bind fun x => (cL f es).map fun ys => .meth q.1 m q.2.1 x ys else none else none
def cN (c : C) (x : Str) : Option E := match c.slot x with
  | some i => some (.var i)
  | none => if c.gl x = true then (c.tb.cs.lookup x).map fun i => .lit (.int i) else none
def cE : Nat → C → Expr → Option E
  | 0, _, _ => none
  | n + 1, c, e => match e with
    | .Name x _ => cN c x
    | .Attribute a f _ => if recvB a = true then (c.tb.fl.lookup f).bind fun k => (cE n c a).map fun y => .att k y f else none
    | .Constant (.int i) _ _ => some (.lit (.int i))
    | .Constant (.bool b) _ _ => some (.lit (.bool b))
    | .Constant .none _ _ => some (.lit .none)
    | .Constant (.str x) _ _ => some (.lit (.str x))
    | .BinOp a op b _ => (binOp op).bind fun o => (cE n c a).bind fun x => (cE n c b).map fun y => .bin o x y
    | .UnaryOp .USub a _ => (cE n c a).map .neg
    | .UnaryOp .Not a _ => (cE n c a).map .not
    | .BoolOp op es _ => if 2 ≤ es.length then (cL (cE n c) es).bind (foldB op) else none
    | .IfExp t a b _ => (cE n c t).bind fun z => (cE n c a).bind fun x => (cE n c b).map fun y => .ife z x y
    | .Compare a [op] [b] _ => (cmpOp op).bind fun o => (cE n c a).bind fun x => (cE n c b).map fun y => .cmp o x y
    | .Compare a [op, op'] [b, d] _ => (cmpOp op).bind fun o => (cmpOp op').bind fun o' => (cE n c a).bind fun x => (cE n c b).bind fun y => (cE n c d).map fun z => .chn o o' x y z
    | .Tuple es _ _ => if es.length ≤ 1000 then (cL (cE n c) es).map .tup else none
    | .List es _ => if es.length ≤ 1000 then (cL (cE n c) es).map .lst else none
    | .Subscript a (.Slice lo hi none _) _ => (cE n c a).bind fun x => (cO (cE n c) lo).bind fun l => (cO (cE n c) hi).map fun h => .sl x l h
    | .Subscript a (.Slice none none (some (.UnaryOp .USub (.Constant (.int 1) _ _) _)) _) _ => (cE n c a).map .rev
    | .Subscript a b _ => (cE n c a).bind fun x => (cE n c b).map fun y => .ix x y
    | .Call (.Name x _) [.SetComp elt [⟨tg, iter, [], 0⟩] scope _] [] _ =>
      if (x == ("len" : Str) && c.bi x && blkC c.N c.sc scope (blkOwn c scope)) = true then
        (cT (c.blk scope) tg).bind fun t => (cI (cE n c) c tg iter).bind fun s => (cE n (c.blk scope) elt).bind fun y =>
          if ((tgSlots t).all fun i => ((blkOwn c scope).map (·.2)).contains i) && notSet iter = true then some (.slen y t s.1 s.2 ((blkOwn c scope).map (·.2))) else none
      else none
    | .Call (.Name x _) es [] _ =>
      if c.gl x = true then
        match c.fn.lookup x with
        | some (j, k) => if es.length = k then (cL (cE n c) es).map (.call j) else none
        | none =>
          match c.lib.lookup x with
          | some id => if es = [] then none else (biL id).bind fun b => (cL (cE n c) es).map (.bi b)
          | none =>
            if c.bt.contains x = true then
              match x == ("isinstance" : Str), es with
              | true, [a, .Name T _] => if c.bi T = true then (tyOfName T).bind fun t => (cE n c a).map fun y => .isi y t else none
              | true, _ => none
              | false, es => if es.isEmpty = true then none else match lrgE c x es with
                | some q => (cL (cE n c) q.2).map (.bi q.1)
                | none => match biB x with
                  | some b => (cL (cE n c) es).map (.bi b)
                  | none => (biT x).bind fun b => (cL (cE n c) es).map (.bi b)
            else if es.isEmpty = true then none else (c.tb.cl.lookup x).bind fun ns => (cL (cE n c) es).map fun ys => .new x ns c.tb.pr ys
      else none
    | .Call (.Name x _) [a] [⟨some k, d, _⟩] _ =>
      if (c.bi x && k == ("default" : Str)) = true then
        (if x = ("min" : Str) then some B.mnd else if x = ("max" : Str) then some B.mxd else none).bind fun b => (cE n c a).bind fun y => (cE n c d).map fun z => .bi b [y, z]
      else none
    | .Call (.Attribute (.Name x p) f apos) [d] [] cpos =>
      if (f == ("index" : Str) && (apos.endLine == cpos.line)) = true then (c.slot x).bind fun i => (cE n c d).map fun y => .bi .idx [.var i, y]
      else if (f == ("count" : Str) && (apos.endLine == cpos.line)) = true then (c.slot x).bind fun i => (cE n c d).map fun y => .bi .cnt [.var i, y]
      else cM (cE n c) c (.Name x p) f [d] (apos.endLine == cpos.line)
    | .Call (.Attribute a f apos) es [] cpos => cM (cE n c) c a f es (apos.endLine == cpos.line)
    | .ListComp elt [⟨tg, iter, ifs, 0⟩] scope _ =>
      if blkC c.N c.sc scope (blkOwn c scope) = true then
        (cT (c.blk scope) tg).bind fun t => (cI (cE n c) c tg iter).bind fun s => (cE n (c.blk scope) elt).bind fun y =>
          if ((tgSlots t).all fun i => ((blkOwn c scope).map (·.2)).contains i) && notSet iter = true then
            match ifs with
            | [] => some (.comp y t s.1 s.2 ((blkOwn c scope).map (·.2)) none)
            | [d] => (cE n (c.blk scope) d).map fun z => .comp y t s.1 s.2 ((blkOwn c scope).map (·.2)) (some z)
            | _ => none
          else none
      else none
    | .ListComp elt [⟨tg, iter, [], 0⟩, ⟨tg1, .Call (.Name r _) [e1] [] _, [], 0⟩] scope _ =>
      if (blkC c.N c.sc scope (blkOwn c scope) && (r == ("range" : Str) && (c.blk scope).bi r)) = true then
        (cT (c.blk scope) tg).bind fun t => (cI (cE n c) c tg iter).bind fun s => (cT (c.blk scope) tg1).bind fun t1 => (cE n (c.blk scope) e1).bind fun z => (cE n (c.blk scope) elt).bind fun y =>
          if ((tgSlots t).all fun i => ((blkOwn c scope).map (·.2)).contains i) && ((tgSlots t1).all fun i => ((blkOwn c scope).map (·.2)).contains i) && notSet iter = true then
            some (.comp2 y t s.1 s.2 t1 z ((blkOwn c scope).map (·.2)) (tgSlots t1))
          else none
      else none
    | _ => none
end Wi

namespace Wi
open PySem PySem.Spec PyProof.Rows L2
def oF (F : FE) : Option E → En → Option (Option Int)
  | none, _ => some none
  | some e, env => (dnE F e env).bind fun y => optI y.d
structure OKE (X : Cx) (F : FE) (e : Expr) (ir : E) : Prop where
  v : PE X e (tE X.K (dnE F ir) (lkE ir))
  c : PE X e (tC X.K (dnE F ir) (lkC ir))
  t : PT X e (tT X.K (dnT F ir))
  st : isStar e = false
  sl : notSlice e = true
  se : notSet e = true
theorem pe_congr {X : Cx} {e : Expr} {f g : En → Option RV} {l l' : List Nat} (h : PE X e (tE X.K f l)) (q : ∀ env, g env = f env) (hl : l' = l) : PE X e (tE X.K g l') := by
  have : g = f := funext q
  rw [this, hl]; exact h
theorem pi_congr {X : Cx} {tg e : Expr} {b : Bool} {f g : En → Option (List D)} {l l' : List Nat} (h : PI X tg e (tI X.K b f l)) (q : ∀ env, g env = f env) (hl : l' = l) : PI X tg e (tI X.K b g l') := by
  have : g = f := funext q
  rw [this, hl]; exact h
abbrev Plain (X : Cx) (e : Expr) : Prop := ∀ whole, isTrue e X.env whole = (do let v ← whole; standAt e.pos; holding [v] (truthy v))
/-- an expression whose test is its value's truth -/
theorem oke {X : Cx} {F : FE} {e : Expr} {ir : E} (v : PE X e (tE X.K (dnE F ir) (lkE ir))) (hl : lkC ir = lkE ir) (hp : Plain X e) (ht : ∀ env, dnT F ir env = ((dnE F ir env).bind fun r => truth r.d) ∨ dnT F ir env = none)
    (st : isStar e = false) (sl : notSlice e = true) (se : notSet e = true) : OKE X F e ir := by
  have c : PE X e (tC X.K (dnE F ir) (lkC ir)) := by rw [hl]; exact tE_tC v
  refine ⟨v, c, ?_, st, sl, se⟩
  exact pt_mono (t_truth c hp) fun σ H Q ⟨Ox, Hb, env, b, R, e, k⟩ => by
    rcases ht env with z | z
    · exact ⟨Ox, Hb, env, b, R, z.symm.trans e, k⟩
    · rw [z] at e; cases e
theorem oke_t {X : Cx} {F : FE} {e : Expr} {ir : E} (v : PE X e (tE X.K (dnE F ir) (lkE ir))) (hl : lkC ir = lkE ir) (t : PT X e (tT X.K (dnT F ir))) (st : isStar e = false) (sl : notSlice e = true) (se : notSet e = true) : OKE X F e ir :=
  ⟨v, by rw [hl]; exact tE_tC v, t, st, sl, se⟩
inductive OKL (X : Cx) (F : FE) : List Expr → List E → Prop
  | nil : OKL X F [] []
  | cons {e : Expr} {es : List Expr} {ir : E} {irs : List E} : OKE X F e ir → OKL X F es irs → OKL X F (e :: es) (ir :: irs)
section
variable {X : Cx} {F : FE} {c : C}
theorem OKL.stars : ∀ {es : List Expr} {irs : List E}, OKL X F es irs → es.all (fun e => !isStar e) = true
  | _, _, .nil => rfl
  | _, _, .cons h t => by rw [List.all_cons, h.st, t.stars]; rfl
theorem OKL.a : ∀ {es : List Expr} {irs : List E}, OKL X F es irs → PA X es (tA X.K (dnEs F irs) (lkEs irs))
  | _, _, .nil => a_nil
  | _, _, .cons h t => a_cons h.st h.v t.a
theorem OKL.ac : ∀ {es : List Expr} {irs : List E}, OKL X F es irs → PA X es (tAC X.K (dnEs F irs) (lkCs irs))
  | _, _, .nil => ac_nil
  | _, _, .cons h t => ac_cons h.st h.c t.ac
theorem dnEs_length : ∀ {irs : List E} {env : En} {ds : List D}, dnEs F irs env = some ds → ds.length = irs.length
  | [], _, _, h => by cases h; rfl
  | ir :: irs, env, ds, h => by
    obtain ⟨x, e1, e2⟩ := Option.bind_eq_some_iff.mp (show (dnE F ir env).bind (fun x => (dnEs F irs env).map fun xs => x.d :: xs) = some ds from h)
    obtain ⟨xs, e3, rfl⟩ := Option.map_eq_some_iff.mp e2
    rw [List.length_cons, List.length_cons, dnEs_length e3]
theorem OKL.length : ∀ {es : List Expr} {irs : List E}, OKL X F es irs → es.length = irs.length
  | _, _, .nil => rfl
  | _, _, .cons _ t => by rw [List.length_cons, List.length_cons, t.length]
theorem cL_ok {f : Expr → Option E} (ih : ∀ e ir, f e = some ir → OKE X F e ir) : ∀ {es : List Expr} {irs : List E}, cL f es = some irs → OKL X F es irs
  | [], _, h => by cases h; exact .nil
  | e :: es, irs, h => by
    obtain ⟨x, e1, e2⟩ := Option.bind_eq_some_iff.mp (show (f e).bind (fun x => (cL f es).map (x :: ·)) = some irs from h)
    obtain ⟨xs, e3, rfl⟩ := Option.map_eq_some_iff.mp e2
    exact .cons (ih e x e1) (cL_ok ih e3)
theorem cM_ok {f : Expr → Option E} (ih : ∀ e ir, f e = some ir → OKE X F e ir) (o : XOk c X F) {a : Expr} {m : Str} {es : List Expr} {apos cpos : Pos} {ir : E} (h : cM f c a m es (apos.endLine == cpos.line) = some ir) : OKE X F (.Call (.Attribute a m apos) es [] cpos) ir := by
  unfold cM at h
  split at h
  · rename_i hb
    rw [Bool.and_eq_true, Bool.and_eq_true, decide_eq_true_eq] at hb
    obtain ⟨⟨hv, hln⟩, h30⟩ := hb
    obtain ⟨⟨k, j, n⟩, e1, h⟩ := Option.bind_eq_some_iff.mp h
    split at h
    · rename_i hn
      have hn : es.length + 1 = n := hn
      subst hn
      obtain ⟨x, e2, h⟩ := Option.bind_eq_some_iff.mp h
      obtain ⟨ys, e3, rfl⟩ := Option.map_eq_some_iff.mp h
      have hl := cL_ok ih e3
      obtain ⟨C0, fa, fd, ps, kk, h1, h2, h3, h4, h5, h6⟩ := o.mts m k j _ e1
      refine oke (e_meth h1 h2 h3 h4 h5 h6 (ih _ _ e2).v hv h30 hln hl.a hl.stars fun env ds z => by rw [dnEs_length z]; exact hl.length.symm) rfl (fun _ => rfl) (fun env => .inl ?_) rfl rfl rfl
      show ((dnE F x env).bind fun x => if insOk k m x.d = true then (dnEs F ys env).bind fun ds => (F j (x.d :: ds)).bind fun r => truth r.d else none) = ((dnE F x env).bind fun x => if insOk k m x.d = true then (dnEs F ys env).bind fun ds => F j (x.d :: ds) else none).bind fun r => truth r.d
      rw [Option.bind_assoc]
      congr 1; funext z
      split
      · rw [Option.bind_assoc]
      · rfl
    · cases h
  · cases h
theorem fold_and : ∀ {es : List Expr} {irs : List E} {ir : E} {pos : Pos}, OKL X F es irs → foldB .And irs = some ir → PE X (.BoolOp .And es pos) (tE X.K (dnE F ir) (lkE ir)) ∧ PW X (.BoolOp .And es pos) (tT X.K (dnT F ir))
  | _, _, _, _, .nil, h => by cases h
  | _, _, ir, _, .cons (irs := []) h .nil, q => by
    cases q
    exact ⟨e_one h.v, w_and1 h.t⟩
  | _, _, ir, pos, .cons (irs := y :: r) h (.cons h2 t), q => by
    obtain ⟨z, e1, rfl⟩ := Option.map_eq_some_iff.mp (show (foldB .And (y :: r)).map (fun z => E.and _ z) = some ir from q)
    obtain ⟨a, b⟩ := fold_and (pos := pos) (.cons h2 t) e1
    exact ⟨e_and h.v a, w_and h.t b⟩
theorem fold_or : ∀ {es : List Expr} {irs : List E} {ir : E} {pos : Pos}, OKL X F es irs → foldB .Or irs = some ir → PE X (.BoolOp .Or es pos) (tE X.K (dnE F ir) (lkE ir)) ∧ PW X (.BoolOp .Or es pos) (tT X.K (dnT F ir))
  | _, _, _, _, .nil, h => by cases h
  | _, _, ir, _, .cons (irs := []) h .nil, q => by
    cases q
    exact ⟨e_one h.v, w_or1 h.t⟩
  | _, _, ir, pos, .cons (irs := y :: r) h (.cons h2 t), q => by
    obtain ⟨z, e1, rfl⟩ := Option.map_eq_some_iff.mp (show (foldB .Or (y :: r)).map (fun z => E.or _ z) = some ir from q)
    obtain ⟨a, b⟩ := fold_or (pos := pos) (.cons h2 t) e1
    exact ⟨e_or h.v a, w_or h.t b⟩
mutual
theorem cT_ok (o : XOk c X F) : ∀ {e : Expr} {t : Tg}, cT c e = some t → PG X e (tG X.K t) ∧ isStar e = false
  | .Name x p, t, h => by
    have h : (if c.own.contains x = true then (c.slot x).map Tg.n else none) = some t := h
    split at h
    · rename_i q
      obtain ⟨i, e1, rfl⟩ := Option.map_eq_some_iff.mp h
      obtain ⟨h1, h2, h3, h4⟩ := o.slotv e1
      obtain ⟨l1, l2⟩ := o.own x (by simpa using q)
      exact ⟨g_name (by rw [o.N]; exact o.nd) h1 l1 l2, rfl⟩
    · cases h
  | .Tuple es k p, t, h => by
    obtain ⟨ts, e1, rfl⟩ := Option.map_eq_some_iff.mp (show (cTs c es).map Tg.t = some t from h)
    obtain ⟨h1, h2, h3⟩ := cTs_ok o e1
    exact ⟨g_tup o.calm h1 h2 h3, rfl⟩
  | .BoolOp .., _, h | .NamedExpr .., _, h | .BinOp .., _, h | .UnaryOp .., _, h | .Lambda .., _, h | .IfExp .., _, h | .Dict .., _, h | .Set .., _, h | .ListComp .., _, h | .SetComp .., _, h | .DictComp .., _, h | .GeneratorExp .., _, h | .Await .., _, h | .Yield .., _, h | .YieldFrom .., _, h | .Compare .., _, h | .Call .., _, h | .FormattedValue .., _, h | .JoinedStr .., _, h | .Constant .., _, h | .Attribute .., _, h | .Subscript .., _, h | .Starred .., _, h | .List .., _, h | .Slice .., _, h => by cases h
theorem cTs_ok (o : XOk c X F) : ∀ {es : List Expr} {ts : List Tg}, cTs c es = some ts → PGs X es (tGs X.K ts) ∧ es.all (fun e => !isStar e) = true ∧ es.length = ts.length
  | [], ts, h => by cases h; exact ⟨gs_nil, rfl, rfl⟩
  | e :: es, ts, h => by
    obtain ⟨t, e1, e2⟩ := Option.bind_eq_some_iff.mp (show (cT c e).bind (fun t => (cTs c es).map (t :: ·)) = some ts from h)
    obtain ⟨r, e3, rfl⟩ := Option.map_eq_some_iff.mp e2
    obtain ⟨h1, h2⟩ := cT_ok o e1
    obtain ⟨h3, h4, h5⟩ := cTs_ok o e3
    have hs : (e :: es).all (fun e => !isStar e) = true := by rw [List.all_cons, h2, h4]; rfl
    exact ⟨gs_cons h1 h3 hs, hs, by rw [List.length_cons, List.length_cons, h5]⟩
end
def lkS (b : Bool) (irs : List E) : List Nat := if b = true then lkEs irs else lkCs irs
theorem one_p {e : Expr} {ir : E} (b : Bool) (h : OKE X F e ir) : PE X e (tP X.K b (dnE F ir) (lkS b [ir])) := by
  cases b with
  | true =>
    show PE X e (tP X.K true (dnE F ir) (lkE ir ++ []))
    rw [List.append_nil]; exact p_loop h.v
  | false =>
    show PE X e (tP X.K false (dnE F ir) (lkC ir ++ []))
    rw [List.append_nil]; exact p_comp h.c
theorem many_p {es : List Expr} {irs : List E} (b : Bool) (h : OKL X F es irs) : PA X es (tAP X.K b (dnEs F irs) (lkS b irs)) := by
  cases b with
  | true => exact ap_loop h.a
  | false => exact ap_comp h.ac
theorem val_p {e tg : Expr} {ir : E} (b : Bool) (h : OKE X F e ir) : PI X tg e (tI X.K b (fun env => (dnEs F [ir] env).bind (srcs .val)) (lkS b [ir])) :=
  pi_congr (i_val (one_p b h)) (fun env => by
    show ((dnE F ir env).bind fun x => (some []).map fun xs => x.d :: xs).bind (srcs .val) = _
    cases dnE F ir env <;> rfl) rfl
theorem rev_p {e tg : Expr} {ir : E} {p pos : Pos} (b : Bool) (hg : Gl X "reversed") (hm : X.mg "reversed" = none) (h : OKE X F e ir) : PI X tg (.Call (.Name "reversed" p) [e] [] pos) (tI X.K b (fun env => (dnEs F [ir] env).bind (srcs .rev)) (lkS b [ir])) :=
  pi_congr (i_rev hg hm (one_p b h) h.st) (fun env => by
    show ((dnE F ir env).bind fun x => (some []).map fun xs => x.d :: xs).bind (srcs .rev) = _
    cases dnE F ir env <;> rfl) rfl
theorem er_p {e : Expr} {ir : E} {p p2 pos pos2 tpos : Pos} {elts : List Expr} {kk : Nat} (b : Bool) (hg : Gl X "enumerate") (hm : X.mg "enumerate" = none) (hg2 : Gl X "reversed") (hm2 : X.mg "reversed" = none) (h : OKE X F e ir) :
    PI X (.Tuple elts kk tpos) (.Call (.Name "enumerate" p) [.Call (.Name "reversed" p2) [e] [] pos2] [] pos) (tI X.K b (fun env => (dnEs F [ir] env).bind (srcs .er)) (lkS b [ir])) :=
  pi_congr (i_er hg hm hg2 hm2 (one_p b h) h.st) (fun env => by
    show ((dnE F ir env).bind fun x => (some []).map fun xs => x.d :: xs).bind (srcs .er) = _
    cases dnE F ir env <;> rfl) rfl
theorem cI_ok {f : Expr → Option E} (ih : ∀ e ir, f e = some ir → OKE X F e ir) (o : XOk c X F) (b : Bool) {tg : Expr} (e : Expr) {s : SK × List E} (h : cI f c tg e = some s) : PI X tg e (tI X.K b (fun env => (dnEs F s.2 env).bind (srcs s.1)) (lkS b s.2)) := by
  unfold cI at h
  split at h
  · rename_i x p a q
    split at h
    · rename_i hr
      rw [Bool.and_eq_true, beq_iff_eq] at hr
      obtain ⟨rfl, hb⟩ := hr
      obtain ⟨y, e1, rfl⟩ := Option.map_eq_some_iff.mp h
      obtain ⟨h1, h2, h3, h4⟩ := o.biv hb
      have hl := OKL.cons (ih _ _ e1) .nil
      exact i_rng1 h1 h4 (many_p b hl) (ih _ _ e1).st fun env ds z => dnEs_length z
    · split at h
      · rename_i hr
        rw [Bool.and_eq_true, Bool.and_eq_true, beq_iff_eq] at hr
        obtain ⟨⟨rfl, hb⟩, ht⟩ := hr
        obtain ⟨h1, h2, h3, h4⟩ := o.biv hb
        split at h
        · rename_i q2 ez
          unfold ezA at ez
          split at ez
          · rename_i x2 p2 a1 a2 q3
            split at ez
            · rename_i hr2
              cases ez
              rw [Bool.and_eq_true, beq_iff_eq] at hr2
              obtain ⟨rfl, hb2⟩ := hr2
              obtain ⟨g1, g2, g3, g4⟩ := o.biv hb2
              obtain ⟨ys, e0, rfl⟩ := Option.map_eq_some_iff.mp h
              obtain ⟨y, e1, e0⟩ := Option.bind_eq_some_iff.mp e0
              obtain ⟨zs, e2, rfl⟩ := Option.map_eq_some_iff.mp e0
              obtain ⟨z, e5, e3⟩ := Option.bind_eq_some_iff.mp e2
              obtain ⟨ws, e4, rfl⟩ := Option.map_eq_some_iff.mp e3
              cases e4
              have hl := OKL.cons (ih _ _ e1) (.cons (ih _ _ e5) .nil)
              cases tg with
              | Tuple elts kk tp => exact i_ez h1 h4 g1 g4 (many_p b hl) (ih _ _ e1).st (ih _ _ e5).st
              | _ => cases ht
            · cases ez
          · rename_i x2 p2 a1 q3
            split at ez
            · rename_i hr2
              cases ez
              rw [Bool.and_eq_true, beq_iff_eq] at hr2
              obtain ⟨rfl, hb2⟩ := hr2
              obtain ⟨g1, g2, g3, g4⟩ := o.biv hb2
              obtain ⟨ys, e0, rfl⟩ := Option.map_eq_some_iff.mp h
              obtain ⟨y, e1, e0⟩ := Option.bind_eq_some_iff.mp e0
              obtain ⟨zs, e4, rfl⟩ := Option.map_eq_some_iff.mp e0
              cases e4
              cases tg with
              | Tuple elts kk tp => exact er_p b h1 h4 g1 g4 (ih _ _ e1)
              | _ => cases ht
            · cases ez
          · cases ez
        · obtain ⟨y, e1, rfl⟩ := Option.map_eq_some_iff.mp h
          have hl := OKL.cons (ih _ _ e1) .nil
          cases tg with
          | Tuple elts kk tp => exact i_enum h1 h4 (many_p b hl) (ih _ _ e1).st
          | _ => cases ht
      · split at h
        · rename_i hr
          rw [Bool.and_eq_true, beq_iff_eq] at hr
          obtain ⟨rfl, hb⟩ := hr
          obtain ⟨y, e1, rfl⟩ := Option.map_eq_some_iff.mp h
          obtain ⟨h1, h2, h3, h4⟩ := o.biv hb
          exact rev_p b h1 h4 (ih _ _ e1)
        · obtain ⟨y, e1, rfl⟩ := Option.map_eq_some_iff.mp h
          exact val_p b (ih _ _ e1)
  · rename_i x p a a2 q
    split at h
    · rename_i hr
      rw [Bool.and_eq_true, beq_iff_eq] at hr
      obtain ⟨rfl, hb⟩ := hr
      obtain ⟨y, e1, h⟩ := Option.bind_eq_some_iff.mp h
      obtain ⟨z, e2, rfl⟩ := Option.map_eq_some_iff.mp h
      obtain ⟨h1, h2, h3, h4⟩ := o.biv hb
      have hl := OKL.cons (ih _ _ e1) (.cons (ih _ _ e2) .nil)
      exact i_rng2 h1 h4 (many_p b hl) (ih _ _ e1).st (ih _ _ e2).st fun env ds z => dnEs_length z
    · split at h
      · rename_i hr
        rw [Bool.and_eq_true, Bool.and_eq_true, beq_iff_eq] at hr
        obtain ⟨⟨rfl, hb⟩, ht⟩ := hr
        obtain ⟨y, e1, h⟩ := Option.bind_eq_some_iff.mp h
        obtain ⟨z, e2, rfl⟩ := Option.map_eq_some_iff.mp h
        obtain ⟨h1, h2, h3, h4⟩ := o.biv hb
        have hl := OKL.cons (ih _ _ e1) (.cons (ih _ _ e2) .nil)
        cases tg with
        | Tuple elts kk tp => exact i_zip h1 h4 (many_p b hl) (ih _ _ e1).st (ih _ _ e2).st
        | _ => cases ht
      · obtain ⟨y, e1, rfl⟩ := Option.map_eq_some_iff.mp h
        exact val_p b (ih _ _ e1)
  · rename_i x p a a2 a3 q
    split at h
    · rename_i hr
      rw [Bool.and_eq_true, beq_iff_eq] at hr
      obtain ⟨rfl, hb⟩ := hr
      obtain ⟨y, e1, h⟩ := Option.bind_eq_some_iff.mp h
      obtain ⟨z, e2, h⟩ := Option.bind_eq_some_iff.mp h
      obtain ⟨w, e3, rfl⟩ := Option.map_eq_some_iff.mp h
      obtain ⟨h1, h2, h3, h4⟩ := o.biv hb
      have hl := OKL.cons (ih _ _ e1) (.cons (ih _ _ e2) (.cons (ih _ _ e3) .nil))
      exact i_rng3 h1 h4 (many_p b hl) (ih _ _ e1).st (ih _ _ e2).st (ih _ _ e3).st fun env ds z => dnEs_length z
    · obtain ⟨y, e1, rfl⟩ := Option.map_eq_some_iff.mp h
      exact val_p b (ih _ _ e1)
  · obtain ⟨y, e1, rfl⟩ := Option.map_eq_some_iff.mp h
    exact val_p b (ih _ _ e1)
theorem cO_ok {f : Expr → Option E} (ih : ∀ e ir, f e = some ir → OKE X F e ir) {eo : Option Expr} {io : Option E} (h : cO f eo = some io) : PO X eo (tO X.K (oF F io)) := by
  cases eo with
  | none => cases h; exact o_none
  | some e =>
    obtain ⟨y, e1, rfl⟩ := Option.map_eq_some_iff.mp (show (f e).map some = some io from h)
    exact o_some (ih _ _ e1).c
end
theorem blkOwn_mem {c : C} {scope : Scope} {x : Str} {i : Nat} (h : (x, i) ∈ blkOwn c scope) : ∃ k, (x, k) ∈ scope.names ∧ (k = .local ∨ k = .cell) ∧ ixOf c.N x = some i := by
  unfold blkOwn at h
  obtain ⟨⟨y, k⟩, h1, h2⟩ := List.mem_filterMap.mp h
  cases k with
  | «local» =>
    obtain ⟨j, e1, e2⟩ := Option.map_eq_some_iff.mp h2
    cases e2
    exact ⟨_, h1, .inl rfl, e1⟩
  | cell =>
    obtain ⟨j, e1, e2⟩ := Option.map_eq_some_iff.mp h2
    cases e2
    exact ⟨_, h1, .inr rfl, e1⟩
  | _ => cases h2
theorem xok_blk {c : C} {X : Cx} {F : FE} {scope : Scope} (o : XOk c X F) (ok : BlkOk X.N X.env.scope scope (blkOwn c scope)) (s : Shared) (H : Hp) (C0 : Addr) (cl : List (Str × Addr)) (fp : List Addr) : XOk (c.blk scope) (X.blk s H scope (compEnvC scope cl C0 X.env) fp) F := by
  have hsc : (compEnvC scope cl C0 X.env).scope = relS scope X.env.scope := rfl
  refine ⟨o.N, o.nd, by show (compEnvC scope cl C0 X.env).scope = relS scope c.sc; rw [hsc, o.sc], by show (relS scope c.sc).kind = _; exact ok.kind, o.calm, rfl, fun x hx => ?_, o.fns, o.bts, o.lib, o.hu, o.mts, o.cls, o.rm, o.fls, o.csts⟩
  obtain ⟨⟨y, i⟩, hm, rfl⟩ := List.mem_map.mp (show x ∈ (blkOwn c scope).map (·.1) from hx)
  obtain ⟨k, h1, h2, h3⟩ := blkOwn_mem hm
  have hu := ok.uniq _ h1
  have hlk : (relS scope X.env.scope).names.lookup y = some k := lookup_relS_keep (sc := X.env.scope) (names := scope.names) (by rcases h2 with rfl | rfl <;> decide) hu
  show Loc (compEnvC scope cl C0 X.env).scope y ∧ ((scope.names.lookup y == some .cell) = true ∨ (compEnvC scope cl C0 X.env).scope.names.lookup y = some .local)
  rw [hsc]
  rcases h2 with rfl | rfl
  · exact ⟨.inl hlk, .inr hlk⟩
  · exact ⟨.inr hlk, .inl (by rw [show scope.names.lookup y = some .cell from hu]; rfl)⟩
end Wi

namespace Wi
open PySem PySem.Spec PyProof.Rows L2
section
variable {X : Cx} {F : FE} {c : C}
theorem bi1 {b : B} {i : E} (env : En) : dnE F (.bi b [i]) env = (dnE F i env).bind fun x => bF b [x.d] := by
  show (((dnE F i env).bind fun x => (some []).map fun xs => x.d :: xs).bind fun ds => bF b ds) = _
  cases dnE F i env <;> rfl
theorem bi2 {b : B} {i j : E} (env : En) : dnE F (.bi b [i, j]) env = (dnE F i env).bind fun x => (dnE F j env).bind fun y => bF b [x.d, y.d] := by
  show (((dnE F i env).bind fun x => ((dnE F j env).bind fun x => (some []).map fun xs => x.d :: xs).map fun xs => x.d :: xs).bind fun ds => bF b ds) = _
  cases dnE F i env with
  | none => rfl
  | some x => cases dnE F j env <;> rfl
theorem bi2' {b : B} {i j : E} (env : En) : dnE F (.bi b [i, j]) env = ((dnE F i env).bind fun x => (dnE F j env).map fun y => [x.d, y.d]).bind (bF b) := by
  rw [bi2]
  cases dnE F i env with
  | none => rfl
  | some x => cases dnE F j env <;> rfl
theorem lkb1 {b : B} {i : E} : lkE (.bi b [i]) = lkC i := by
  show lkC i ++ [] = lkC i
  rw [List.append_nil]
theorem lkb2 {b : B} {i j : E} : lkE (.bi b [i, j]) = lkC i ++ lkC j := by
  show lkC i ++ (lkC j ++ []) = lkC i ++ lkC j
  rw [List.append_nil]
theorem cE_ok : ∀ (n : Nat) (c : C) (e : Expr) (ir : E), cE n c e = some ir → ∀ (X : Cx) (F : FE), XOk c X F → OKE X F e ir
  | 0, _, _, _, h, _, _, _ => by cases h
  | n + 1, c, e, ir, h, X, F, o => by
    have ih := fun e ir h => cE_ok n c e ir h X F o
    unfold cE at h
    split at h
    · -- Name
      unfold cN at h
      split at h
      · rename_i i e1
        cases h
        obtain ⟨h1, h2, h3, h4⟩ := o.slotv e1
        have hc := c_var (X := X) (pos := by assumption) h1 h2 h3 h4
        refine ⟨e_var h1 h2 h3 h4, hc, t_truth hc (fun _ => rfl), rfl, rfl, rfl⟩
      · split at h
        · rename_i hg
          obtain ⟨i, e1, rfl⟩ := Option.map_eq_some_iff.mp h
          obtain ⟨g1, g2, g3⟩ := o.glv hg
          obtain ⟨tk, hm⟩ := o.csts _ i e1
          exact oke (e_cst g1 hm g2) rfl (fun _ => rfl) (fun _ => .inl rfl) rfl rfl rfl
        · cases h
    · -- Attribute
      split at h
      · rename_i hv
        obtain ⟨k, e1, h⟩ := Option.bind_eq_some_iff.mp h
        obtain ⟨y, e2, rfl⟩ := Option.map_eq_some_iff.mp h
        obtain ⟨C0, h1, h2, h3⟩ := o.fls _ k e1
        refine oke (e_att h1 h2 h3 (ih _ _ e2).c (base_eq hv)) rfl (fun _ => rfl) (fun env => .inl ?_) rfl rfl rfl
        show ((dnE F y env).bind fun x => (attD k _ x.d).bind truth) = ((dnE F y env).bind fun x => (attD k _ x.d).map RV.v).bind fun (r : RV) => truth r.d
        rw [Option.bind_assoc]
        congr 1; funext z
        rw [Option.bind_map]; rfl
      · cases h
    · cases h; exact oke (e_lit pe_int fun _ _ => .int _) rfl (fun _ => rfl) (fun _ => .inl rfl) rfl rfl rfl
    · cases h; exact oke (e_lit pe_bl fun _ _ => .bl _) rfl (fun _ => rfl) (fun _ => .inl rfl) rfl rfl rfl
    · cases h; exact oke (e_lit pe_non fun _ _ => .non) rfl (fun _ => rfl) (fun _ => .inl rfl) rfl rfl rfl
    · cases h; exact oke (e_lit pe_str fun _ _ => .str _) rfl (fun _ => rfl) (fun _ => .inl rfl) rfl rfl rfl
    · -- BinOp
      obtain ⟨o1, e1, h⟩ := Option.bind_eq_some_iff.mp h
      obtain ⟨x, e2, h⟩ := Option.bind_eq_some_iff.mp h
      obtain ⟨y, e3, rfl⟩ := Option.map_eq_some_iff.mp h
      refine oke (e_bin (binOp_ok e1) (ih _ _ e2).c (ih _ _ e3).c) rfl (fun _ => rfl) (fun env => .inl ?_) rfl rfl rfl
      show ((dnE F x env).bind fun x => (dnE F y env).bind fun y => (o2 o1 x.d y.d).bind fun r => truth r.d) = ((dnE F x env).bind fun x => (dnE F y env).bind fun y => o2 o1 x.d y.d).bind fun r => truth r.d
      rw [Option.bind_assoc]
      congr 1; funext z
      rw [Option.bind_assoc]
    · obtain ⟨x, e2, rfl⟩ := Option.map_eq_some_iff.mp h
      exact oke (e_neg (ih _ _ e2).v) rfl (fun _ => rfl) (fun env => .inr rfl) rfl rfl rfl
    · obtain ⟨x, e2, rfl⟩ := Option.map_eq_some_iff.mp h
      exact oke_t (e_not (ih _ _ e2).c) rfl (t_not (ih _ _ e2).t) rfl rfl rfl
    · -- BoolOp
      rename_i op es pos
      split at h
      case isFalse => cases h
      rename_i h2l
      obtain ⟨irs, e1, e2⟩ := Option.bind_eq_some_iff.mp h
      have hl := cL_ok ih e1
      cases op with
      | And =>
        obtain ⟨h1, h2⟩ := fold_and (pos := pos) hl e2
        refine oke_t h1 ?_ h2.pt rfl rfl rfl
        cases irs with
        | nil => cases e2
        | cons a r =>
          cases r with
          | nil => rw [hl.length] at h2l; exact absurd h2l (by simp)
          | cons b r =>
            obtain ⟨z, e3, rfl⟩ := Option.map_eq_some_iff.mp (show (foldB .And (b :: r)).map (fun z => E.and a z) = some ir from e2)
            rfl
      | Or =>
        obtain ⟨h1, h2⟩ := fold_or (pos := pos) hl e2
        refine oke_t h1 ?_ h2.pt rfl rfl rfl
        cases irs with
        | nil => cases e2
        | cons a r =>
          cases r with
          | nil => rw [hl.length] at h2l; exact absurd h2l (by simp)
          | cons b r =>
            obtain ⟨z, e3, rfl⟩ := Option.map_eq_some_iff.mp (show (foldB .Or (b :: r)).map (fun z => E.or a z) = some ir from e2)
            rfl
    · -- IfExp
      obtain ⟨z, e1, h⟩ := Option.bind_eq_some_iff.mp h
      obtain ⟨x, e2, h⟩ := Option.bind_eq_some_iff.mp h
      obtain ⟨y, e3, rfl⟩ := Option.map_eq_some_iff.mp h
      exact oke_t (e_ife (ih _ _ e1).t (ih _ _ e2).v (ih _ _ e3).v) rfl (pt_none fun _ => rfl) rfl rfl rfl
    · -- Compare
      obtain ⟨o1, e1, h⟩ := Option.bind_eq_some_iff.mp h
      obtain ⟨x, e2, h⟩ := Option.bind_eq_some_iff.mp h
      obtain ⟨y, e3, rfl⟩ := Option.map_eq_some_iff.mp h
      have hm := marks_no (op := by assumption) (ih _ _ e3).se
      exact oke_t (e_cmp (cmpOp_ok o.hu e1) (ih _ _ e2).c (ih _ _ e3).c (marks_no (ih _ _ e3).se)) rfl (t_cmp (cmpOp_ok o.hu e1) (ih _ _ e2).c (ih _ _ e3).c (marks_no (ih _ _ e3).se)) rfl rfl rfl
    · obtain ⟨o1, e1, h⟩ := Option.bind_eq_some_iff.mp h
      obtain ⟨o2, e2, h⟩ := Option.bind_eq_some_iff.mp h
      obtain ⟨x, e3, h⟩ := Option.bind_eq_some_iff.mp h
      obtain ⟨y, e4, h⟩ := Option.bind_eq_some_iff.mp h
      obtain ⟨z, e5, rfl⟩ := Option.map_eq_some_iff.mp h
      exact oke_t (e_chn (cmpOp_ok o.hu e1) (cmpOp_ok o.hu e2) (ih _ _ e3).c (ih _ _ e4).c (ih _ _ e5).c (marks_no (ih _ _ e5).se)) rfl (t_chn (cmpOp_ok o.hu e1) (cmpOp_ok o.hu e2) (ih _ _ e3).c (ih _ _ e4).c (ih _ _ e5).c (marks_no (ih _ _ e5).se)) rfl rfl rfl
    · -- Tuple
      split at h
      · rename_i hz
        obtain ⟨irs, e1, rfl⟩ := Option.map_eq_some_iff.mp h
        have hl := cL_ok ih e1
        exact oke_t (e_tup hl.a fun env ds z => by rw [dnEs_length z, ← hl.length]; exact hz) rfl (pt_none fun _ => rfl) rfl rfl rfl
      · cases h
    · split at h
      · rename_i hz
        obtain ⟨irs, e1, rfl⟩ := Option.map_eq_some_iff.mp h
        have hl := cL_ok ih e1
        exact oke_t (e_lst hl.a fun env ds z => by rw [dnEs_length z, ← hl.length]; exact hz) rfl (pt_none fun _ => rfl) rfl rfl rfl
      · cases h
    · -- slices
      obtain ⟨x, e1, h⟩ := Option.bind_eq_some_iff.mp h
      obtain ⟨l, e2, h⟩ := Option.bind_eq_some_iff.mp h
      obtain ⟨hi, e3, rfl⟩ := Option.map_eq_some_iff.mp h
      exact oke_t (pe_congr (e_sl (ih _ _ e1).c (cO_ok ih e2) (cO_ok ih e3)) (fun env => by cases l <;> cases hi <;> rfl) (by cases l <;> cases hi <;> rfl)) rfl (pt_none fun _ => rfl) rfl rfl rfl
    · obtain ⟨x, e1, rfl⟩ := Option.map_eq_some_iff.mp h
      exact oke_t (e_rev (ih _ _ e1).c) rfl (pt_none fun _ => rfl) rfl rfl rfl
    · obtain ⟨x, e1, h⟩ := Option.bind_eq_some_iff.mp h
      obtain ⟨y, e2, rfl⟩ := Option.map_eq_some_iff.mp h
      refine oke (e_ix (ih _ _ e1).c (ih _ _ e2).c (ih _ _ e2).sl) rfl (fun _ => rfl) (fun env => .inl ?_) rfl rfl rfl
      show ((dnE F x env).bind fun x => (dnE F y env).bind fun y => (item x.d y.d).bind truth) = ((dnE F x env).bind fun x => (dnE F y env).bind fun y => (item x.d y.d).map RV.v).bind fun (r : RV) => truth r.d
      rw [Option.bind_assoc]
      congr 1; funext z
      rw [Option.bind_assoc]
      congr 1; funext z2
      rw [Option.bind_map]; rfl
    · -- len of a set comprehension
      rename_i x p elt tg iter scope cpos pos
      split at h
      case isFalse => cases h
      rename_i hb
      rw [Bool.and_eq_true, Bool.and_eq_true, beq_iff_eq] at hb
      obtain ⟨⟨rfl, hbi⟩, hb⟩ := hb
      obtain ⟨t, a1, h⟩ := Option.bind_eq_some_iff.mp h
      obtain ⟨s, a2, h⟩ := Option.bind_eq_some_iff.mp h
      obtain ⟨y, a3, h⟩ := Option.bind_eq_some_iff.mp h
      split at h
      case isFalse => cases h
      rename_i hv
      cases h
      rw [Bool.and_eq_true, List.all_eq_true] at hv
      obtain ⟨hv1, hv2⟩ := hv
      obtain ⟨g1, _, _, g4⟩ := o.biv hbi
      have ok : BlkOk X.N X.env.scope scope (blkOwn c scope) := by rw [o.N, o.sc]; exact blkOk_by hb
      have hs : ∀ x, foldedSetIterable iter X.env x = pure x := fun x => by cases iter <;> first | rfl | cases hv2
      have hi := cI_ok ih o false (tg := tg) iter a2
      have hvv : ∀ i ∈ tgSlots t, i ∈ (blkOwn c scope).map (·.2) := fun i hi => by simpa using hv1 i hi
      have hg := fun s H C0 cl fp => (cT_ok (xok_blk o ok s H C0 cl fp) a1).1
      have he := fun s H C0 cl fp => (cE_ok n _ elt y a3 _ F (xok_blk o ok s H C0 cl fp)).v
      have hN : X.N.Nodup := by rw [o.N]; exact o.nd
      refine oke_t (pe_congr (e_slen g1 g4 o.calm hN hi ok hg he hs hvv) (fun env => ?_) rfl) rfl (pt_none fun _ => rfl) rfl rfl rfl
      show _ = ((dnEs F s.2 env).bind (srcs s.1)).bind _
      rw [Option.bind_assoc]
      rfl
    · -- calls
      rename_i x p es pos _nsc
      split at h
      · rename_i hg
        obtain ⟨g1, g2, g3⟩ := o.glv hg
        split at h
        · rename_i j k hf
          split at h
          · rename_i hk
            obtain ⟨irs, e1, rfl⟩ := Option.map_eq_some_iff.mp h
            have hl := cL_ok ih e1
            obtain ⟨f, fd, ps, k2, F1, F2, F3, F4, F5⟩ := o.fns x j k hf
            have key : PE X (.Call (.Name x p) es [] pos) (tE X.K (dnE F (.call j irs)) (lkE (.call j irs))) := by
              cases hl with
              | nil =>
                subst hk
                exact e_call0 F1 F2 g1 F3 F4 F5 g2
              | cons h1 h2 =>
                subst hk
                exact e_call F1 F2 g1 F3 F4 F5 (OKL.cons h1 h2).a g2 (OKL.cons h1 h2).stars fun env ds z => by rw [dnEs_length z]; exact (OKL.cons h1 h2).length.symm
            refine oke key rfl (fun _ => rfl) (fun env => .inl ?_) rfl rfl rfl
            show ((dnEs F irs env).bind fun ds => (F j ds).bind fun r => truth r.d) = ((dnEs F irs env).bind fun ds => F j ds).bind fun r => truth r.d
            rw [Option.bind_assoc]
          · cases h
        · have tst : ∀ (b : B) (irs : List E) (env : En), dnT F (.bi b irs) env = ((dnE F (.bi b irs) env).bind fun r => truth r.d) := fun b irs env => by
            show ((dnEs F irs env).bind fun ds => (bF b ds).bind fun r => truth r.d) = ((dnEs F irs env).bind fun ds => bF b ds).bind fun r => truth r.d
            rw [Option.bind_assoc]
          split at h
          · rename_i id hl1
            split at h
            · cases h
            · rename_i hne
              obtain ⟨b, e1, h⟩ := Option.bind_eq_some_iff.mp h
              obtain ⟨irs, e2, rfl⟩ := Option.map_eq_some_iff.mp h
              have hl := cL_ok ih e2
              have hm := o.lib x id hl1
              cases hl with
              | nil => exact absurd rfl hne
              | cons h1 h2 => exact oke (e_biL (biL_ok e1) g1 hm (OKL.cons h1 h2).ac g2 (OKL.cons h1 h2).stars) rfl (fun _ => rfl) (fun env => .inl (tst _ _ env)) rfl rfl rfl
          · split at h
            · rename_i hb
              have hm := o.bts x hb
              split at h
              · rename_i a T p2 hi
                split at h
                · rename_i hT
                  obtain ⟨t, e1, h⟩ := Option.bind_eq_some_iff.mp h
                  obtain ⟨y, e2, rfl⟩ := Option.map_eq_some_iff.mp h
                  obtain ⟨t1, t2, t3, t4⟩ := o.biv hT
                  have hx : x = ("isinstance" : Str) := by simpa using hi
                  subst hx
                  have hT2 := tyOfName_ok e1
                  subst hT2
                  refine oke (e_isi (ih _ _ e2).c (ih _ _ e2).st g1 hm t1 t4) rfl (fun _ => rfl) (fun env => .inl ?_) rfl rfl rfl
                  show ((dnE F y env).bind fun x => isTy t x.d) = ((dnE F y env).bind fun x => (isTy t x.d).map fun c => RV.v (.bool c)).bind fun r => truth r.d
                  rw [Option.bind_assoc]
                  congr 1; funext z
                  rw [Option.bind_map]
                  cases isTy t z.d <;> rfl
                · cases h
              · cases h
              · split at h
                · cases h
                · rename_i hne
                  split at h
                  · rename_i q eq
                    obtain ⟨irs, e2, rfl⟩ := Option.map_eq_some_iff.mp h
                    have hl := cL_ok ih e2
                    unfold lrgE at eq
                    split at eq
                    case h_2 => cases eq
                    rename_i y py es' pq
                    split at eq
                    case isFalse =>
                      split at eq
                      · rename_i hr
                        rw [Bool.and_eq_true, beq_iff_eq] at hr
                        obtain ⟨rfl, hbr⟩ := hr
                        obtain ⟨r1, r2, r3, r4⟩ := o.biv hbr
                        split at eq
                        · rename_i hx
                          cases eq
                          obtain ⟨rfl, hx2⟩ := hx
                          cases hl with
                          | nil => cases hx2
                          | cons h1 h2 =>
                            cases h2 with
                            | nil => exact oke (pe_congr (e_trev o.calm g1 hm r1 r4 h1.c h1.st) (fun env => bi1 env) lkb1) rfl (fun _ => rfl) (fun env => .inl (tst _ _ env)) rfl rfl rfl
                            | cons h2 h3 => simp at hx2
                        · cases eq
                      · split at eq
                        case isFalse => cases eq
                        rename_i hr
                        rw [Bool.and_eq_true, beq_iff_eq] at hr
                        obtain ⟨rfl, hbr⟩ := hr
                        obtain ⟨r1, r2, r3, r4⟩ := o.biv hbr
                        split at eq
                        · rename_i hx
                          cases eq
                          obtain ⟨rfl, hx2⟩ := hx
                          cases hl with
                          | nil => cases hx2
                          | cons h1 h2 =>
                            cases h2 with
                            | nil => cases hx2
                            | cons h2 h3 =>
                              cases h3 with
                              | nil => exact oke (pe_congr (e_tzip o.calm g1 hm r1 r4 (OKL.cons h1 (.cons h2 .nil)).ac h1.st h2.st) (fun env => rfl) rfl) rfl (fun _ => rfl) (fun env => .inl (tst _ _ env)) rfl rfl rfl
                              | cons h3 h4 => simp at hx2
                        · cases eq
                    rename_i hr
                    rw [Bool.and_eq_true, beq_iff_eq] at hr
                    obtain ⟨rfl, hbr⟩ := hr
                    obtain ⟨r1, r2, r3, r4⟩ := o.biv hbr
                    split at eq
                    · rename_i hx
                      cases eq
                      obtain ⟨rfl, hx2⟩ := hx
                      cases hl with
                      | nil => rcases hx2 with z | z | z <;> cases z
                      | cons h1 h2 =>
                        cases h2 with
                        | nil =>
                          exact oke (pe_congr (e_lrg1 o.calm g1 hm r1 r4 h1.c h1.st) (fun env => bi1 env) lkb1) rfl (fun _ => rfl) (fun env => .inl (tst _ _ env)) rfl rfl rfl
                        | cons h2 h3 =>
                          cases h3 with
                          | nil =>
                            exact oke (pe_congr (e_lrg2 o.calm g1 hm r1 r4 h1.c h2.c h1.st h2.st) (fun env => bi2 env) lkb2) rfl (fun _ => rfl) (fun env => .inl (tst _ _ env)) rfl rfl rfl
                          | cons h3 h4 =>
                            cases h4 with
                            | nil => exact oke (pe_congr (e_lrg3 o.calm g1 hm r1 r4 (OKL.cons h1 (.cons h2 (.cons h3 .nil))).ac h1.st h2.st h3.st fun env ds z => dnEs_length z) (fun env => rfl) rfl) rfl (fun _ => rfl) (fun env => .inl (tst _ _ env)) rfl rfl rfl
                            | cons h4 h5 => rcases hx2 with z | z | z <;> simp at z
                    · split at eq
                      · rename_i hx
                        cases eq
                        obtain ⟨rfl, hx2⟩ := hx
                        cases hl with
                        | nil => cases hx2
                        | cons h1 h2 =>
                          cases h2 with
                          | nil =>
                            exact oke (pe_congr (e_trg1 o.calm g1 hm r1 r4 h1.c h1.st) (fun env => bi1 env) lkb1) rfl (fun _ => rfl) (fun env => .inl (tst _ _ env)) rfl rfl rfl
                          | cons h2 h3 => simp at hx2
                      · cases eq
                  split at h
                  · rename_i b e1
                    obtain ⟨irs, e2, rfl⟩ := Option.map_eq_some_iff.mp h
                    have hl := cL_ok ih e2
                    obtain ⟨id, b1, b2⟩ := biB_ok o.calm o.hu e1
                    cases hl with
                    | nil => exact absurd rfl hne
                    | cons h1 h2 => exact oke (e_bi b2 g1 hm b1 (OKL.cons h1 h2).ac g3 g2 (OKL.cons h1 h2).stars) rfl (fun _ => rfl) (fun env => .inl (tst _ _ env)) rfl rfl rfl
                  · obtain ⟨b, e1, h⟩ := Option.bind_eq_some_iff.mp h
                    obtain ⟨irs, e2, rfl⟩ := Option.map_eq_some_iff.mp h
                    have hl := cL_ok ih e2
                    obtain ⟨T, b1, b2⟩ := biT_ok (X := X) e1
                    cases hl with
                    | nil => exact absurd rfl hne
                    | cons h1 h2 => exact oke (e_biT b2 g1 hm b1 (OKL.cons h1 h2).ac g3 g2 (OKL.cons h1 h2).stars) rfl (fun _ => rfl) (fun env => .inl (tst _ _ env)) rfl rfl rfl
            · split at h
              · cases h
              · rename_i hne
                obtain ⟨ns, e1, h⟩ := Option.bind_eq_some_iff.mp h
                obtain ⟨irs, e2, rfl⟩ := Option.map_eq_some_iff.mp h
                have hl := cL_ok ih e2
                obtain ⟨C0, fa, fd, ps, h1, h2, h3, h4, h5⟩ := o.cls x ns e1
                cases hl with
                | nil => exact absurd rfl hne
                | cons q1 q2 => exact oke (e_new (G := F c.tb.pr []) h1 h2 h3 (o.rm x ns e1) g1 h4 h5 (OKL.cons q1 q2).a g2 (OKL.cons q1 q2).stars) rfl (fun _ => rfl) (fun env => .inr rfl) rfl rfl rfl
      · cases h
    · -- default=
      rename_i x p a k d kp pos
      split at h
      case isFalse => cases h
      rename_i hb
      rw [Bool.and_eq_true, beq_iff_eq] at hb
      obtain ⟨hb, rfl⟩ := hb
      obtain ⟨b, e0, h⟩ := Option.bind_eq_some_iff.mp h
      obtain ⟨y, e1, h⟩ := Option.bind_eq_some_iff.mp h
      obtain ⟨z, e2, rfl⟩ := Option.map_eq_some_iff.mp h
      obtain ⟨r1, r2, r3, r4⟩ := o.biv hb
      have tst : ∀ (b : B) (irs : List E) (env : En), dnT F (.bi b irs) env = ((dnE F (.bi b irs) env).bind fun r => truth r.d) := fun b irs env => by
        show ((dnEs F irs env).bind fun ds => (bF b ds).bind fun r => truth r.d) = ((dnEs F irs env).bind fun ds => bF b ds).bind fun r => truth r.d
        rw [Option.bind_assoc]
      have fin : ∀ b id, bootBuiltins x = some (.builtin id) → CallRK X (.builtin id) [Str.ofString "default"] (rDf X.K (bF b)) → OKE X F (.Call (.Name x p) [a] [⟨some (Str.ofString "default"), d, kp⟩] pos) (.bi b [y, z]) := fun b id hv hcr => by
        exact oke (pe_congr (e_bik hcr r1 r4 hv (ih _ _ e1).c (ih _ _ e2).c (ih _ _ e1).st r3 r2) (fun env => bi2' env) lkb2) rfl (fun _ => rfl) (fun env => .inl (tst _ _ env)) rfl rfl rfl
      split at e0
      · rename_i hx
        cases e0
        subst hx
        exact fin .mnd "min" (by decide +kernel) (cr_mnd o.calm o.hu)
      · split at e0
        · rename_i hx
          cases e0
          subst hx
          exact fin .mxd "max" (by decide +kernel) (cr_mxd o.calm o.hu)
        · cases e0
    · -- index, count
      rename_i x p f apos d cpos
      have tst : ∀ (b : B) (irs : List E) (env : En), dnT F (.bi b irs) env = ((dnE F (.bi b irs) env).bind fun r => truth r.d) := fun b irs env => by
        show ((dnEs F irs env).bind fun ds => (bF b ds).bind fun r => truth r.d) = ((dnEs F irs env).bind fun ds => bF b ds).bind fun r => truth r.d
        rw [Option.bind_assoc]
      split at h
      · rename_i hb
        rw [Bool.and_eq_true, beq_iff_eq] at hb
        obtain ⟨rfl, hln⟩ := hb
        obtain ⟨i, e0, h⟩ := Option.bind_eq_some_iff.mp h
        obtain ⟨y, e1, rfl⟩ := Option.map_eq_some_iff.mp h
        obtain ⟨h1, h2, h3, h4⟩ := o.slotv e0
        have hcv := c_var (X := X) (pos := p) h1 h2 h3 h4
        exact oke (pe_congr (e_idx hcv (ih _ _ e1).c (ih _ _ e1).st (by rfl) hln) (fun env => bi2 env) lkb2) rfl (fun _ => rfl) (fun env => .inl (tst _ _ env)) rfl rfl rfl
      · split at h
        case isFalse => exact cM_ok ih o h
        rename_i hb
        rw [Bool.and_eq_true, beq_iff_eq] at hb
        obtain ⟨rfl, hln⟩ := hb
        obtain ⟨i, e0, h⟩ := Option.bind_eq_some_iff.mp h
        obtain ⟨y, e1, rfl⟩ := Option.map_eq_some_iff.mp h
        obtain ⟨h1, h2, h3, h4⟩ := o.slotv e0
        have hcv := c_var (X := X) (pos := p) h1 h2 h3 h4
        exact oke (pe_congr (e_cnt hcv (ih _ _ e1).c (ih _ _ e1).st (by rfl) hln) (fun env => bi2 env) lkb2) rfl (fun _ => rfl) (fun env => .inl (tst _ _ env)) rfl rfl rfl
    · exact cM_ok ih o h
    · -- comprehensions
      rename_i elt tg iter ifs scope pos
      split at h
      · rename_i hb
        obtain ⟨t, e1, h⟩ := Option.bind_eq_some_iff.mp h
        obtain ⟨s, e2, h⟩ := Option.bind_eq_some_iff.mp h
        obtain ⟨y, e3, h⟩ := Option.bind_eq_some_iff.mp h
        split at h
        · rename_i hv
          rw [Bool.and_eq_true, List.all_eq_true] at hv
          obtain ⟨hv1, hv2⟩ := hv
          have ok : BlkOk X.N X.env.scope scope (blkOwn c scope) := by rw [o.N, o.sc]; exact blkOk_by hb
          have hs : ∀ x, foldedSetIterable iter X.env x = pure x := fun x => by cases iter <;> first | rfl | cases hv2
          have hi := cI_ok ih o false (tg := tg) iter e2
          have hvv : ∀ i ∈ tgSlots t, i ∈ (blkOwn c scope).map (·.2) := fun i hi => by simpa using hv1 i hi
          have hg := fun s H C0 cl fp => (cT_ok (xok_blk o ok s H C0 cl fp) e1).1
          have he := fun s H C0 cl fp => (cE_ok n _ elt y e3 _ F (xok_blk o ok s H C0 cl fp)).v
          have hN : X.N.Nodup := by rw [o.N]; exact o.nd
          rcases ifs with _ | ⟨d0, _ | ⟨d1, r1⟩⟩
          · cases h
            refine oke_t (pe_congr (e_comp o.calm hN hi ok hg (fun s H C0 cl fp => t_yes (env0 := [])) he hs hvv) (fun env => ?_) rfl) rfl (pt_none fun _ => rfl) rfl rfl rfl
            show _ = ((dnEs F s.2 env).bind (srcs s.1)).bind _
            rw [Option.bind_assoc]
            rfl
          · dsimp only at h
            obtain ⟨z, e4, rfl⟩ := Option.map_eq_some_iff.mp h
            have ht := fun s H C0 cl fp => t_one (cE_ok n _ d0 z e4 _ F (xok_blk o ok s H C0 cl fp)).t
            refine oke_t (pe_congr (e_comp o.calm hN hi ok hg ht he hs hvv) (fun env => ?_) rfl) rfl (pt_none fun _ => rfl) rfl rfl rfl
            show _ = ((dnEs F s.2 env).bind (srcs s.1)).bind _
            rw [Option.bind_assoc]
            rfl
          · cases h
        · cases h
      · cases h
    · -- comprehensions of two clauses
      rename_i elt tg iter tg1 r rp e1 rpos scope pos
      split at h
      case isFalse => cases h
      rename_i hb
      rw [Bool.and_eq_true, Bool.and_eq_true, beq_iff_eq] at hb
      obtain ⟨hb, rfl, hbr⟩ := hb
      obtain ⟨t, a1, h⟩ := Option.bind_eq_some_iff.mp h
      obtain ⟨s, a2, h⟩ := Option.bind_eq_some_iff.mp h
      obtain ⟨t1, a3, h⟩ := Option.bind_eq_some_iff.mp h
      obtain ⟨z, a4, h⟩ := Option.bind_eq_some_iff.mp h
      obtain ⟨y, a5, h⟩ := Option.bind_eq_some_iff.mp h
      split at h
      case isFalse => cases h
      rename_i hv
      cases h
      rw [Bool.and_eq_true, Bool.and_eq_true, List.all_eq_true, List.all_eq_true] at hv
      obtain ⟨⟨hv1, hv3⟩, hv2⟩ := hv
      have ok : BlkOk X.N X.env.scope scope (blkOwn c scope) := by rw [o.N, o.sc]; exact blkOk_by hb
      have hs : ∀ x, foldedSetIterable iter X.env x = pure x := fun x => by cases iter <;> first | rfl | cases hv2
      have hi := cI_ok ih o false (tg := tg) iter a2
      have hvv : ∀ i ∈ tgSlots t, i ∈ (blkOwn c scope).map (·.2) := fun i hi => by simpa using hv1 i hi
      have hvw : ∀ i ∈ tgSlots t1, i ∈ (blkOwn c scope).map (·.2) := fun i hi => by simpa using hv3 i hi
      have hg := fun s H C0 cl fp => (cT_ok (xok_blk o ok s H C0 cl fp) a1).1
      have hg1 := fun s H C0 cl fp => (cT_ok (xok_blk o ok s H C0 cl fp) a3).1
      have he := fun s H C0 cl fp => (cE_ok n _ elt y a5 _ F (xok_blk o ok s H C0 cl fp)).v
      have hi1 := fun s H C0 cl fp => by
        have ob := xok_blk o ok s H C0 cl fp
        obtain ⟨g1, _, _, g4⟩ := ob.biv hbr
        have q := cE_ok n _ e1 z a4 _ F ob
        exact i_rngR (tg := tg1) (p := rp) (pos := rpos) g1 g4 q.c q.st
      have hN : X.N.Nodup := by rw [o.N]; exact o.nd
      refine oke_t (pe_congr (e_comp2 o.calm hN hi ok hvw hg hi1 hg1 he hs (fun _ _ => rfl) hvv (fun _ h => h)) (fun env => ?_) rfl) rfl (pt_none fun _ => rfl) rfl rfl rfl
      show _ = ((dnEs F s.2 env).bind (srcs s.1)).bind _
      rw [Option.bind_assoc]
      rfl
    · cases h
end
end Wi

namespace Wi
open PySem PySem.Spec PyProof.Rows L2
def parB (sc : Scope) (line : Nat) (xs : List (Str × Pos)) (vs : List Expr) : Bool :=
  vs.all (fun e => !isStar e) && xs.all (fun x => (sc.names.lookup x.1 == some .local) && x.2.line == line) && decide (xs.map (·.1)).Nodup && !(vs.all (foldedForSure 8)) && !(vs.all (constantsAlone 8))
def swB (sc : Scope) (x : Str) (p : Pos) (s : Scope) (p2 : Pos) : Bool :=
  (sc.names.lookup x == some .local) && p.line == p2.line && !(s.names.any fun (n, k) => n == x && (k == .local || k == .cell))
section
variable {X : Cx} {F : FE} {c : C}
theorem XOk.bk (o : XOk c X F) : X.env.blockKind = .function := by
  unfold Env.blockKind
  rw [o.sc, o.kind]; rfl
theorem sw_eq (o : XOk c X F) {elt : Expr} {gs : List Comprehension} {s : Scope} {p p2 : Pos} {x : Str} {l : Nat} : swapsWith (.ListComp elt gs s p2) (some (.Name x p)) l X.env = pure (swB c.sc x p s p2) := by
  show (pure _ : Sem Bool) = pure _
  unfold swB Env.kindOf
  rw [o.bk, o.sc]
  rfl
theorem any_star {vs : List Expr} (h : vs.all (fun e => !isStar e) = true) : (vs.any fun | .Starred .. => true | _ => false) = false := by
  rw [List.any_eq_false]
  intro e he
  have := List.all_eq_true.mp h e he
  cases e <;> first | exact Bool.false_ne_true | cases this
theorem sst2 (o : XOk c X F) {x y : Str} {px py pt pt2 : Pos} {k k2} {a b : Expr} (h : parB c.sc px.line [(x, px), (y, py)] [a, b] = true) :
    (X.env.scope.names.lookup x = some .local ∧ X.env.scope.names.lookup y = some .local ∧ x ≠ y) ∧ swappedStores [.Tuple [.Name x px, .Name y py] k pt] (.Tuple [a, b] k2 pt2) X.env = pure (some [x, y]) := by
  unfold parB at h
  simp only [Bool.and_eq_true, Bool.not_eq_true', decide_eq_true_eq] at h
  obtain ⟨⟨⟨⟨h1, h2⟩, h3⟩, h4⟩, h5⟩ := h
  simp only [List.all_cons, List.all_nil, Bool.and_true, Bool.and_eq_true, beq_iff_eq] at h2
  obtain ⟨⟨h6, _⟩, h7, h8⟩ := h2
  have hne : x ≠ y := by
    simp at h3; exact h3
  refine ⟨⟨by rw [o.sc]; exact h6, by rw [o.sc]; exact h7, hne⟩, ?_⟩
  have hst := any_star h1
  have e1 : X.env.kindOf x = some .local := by unfold Env.kindOf; rw [o.sc]; exact h6
  have e2 : X.env.kindOf y = some .local := by unfold Env.kindOf; rw [o.sc]; exact h7
  unfold swappedStores
  simp [o.bk, hst, e1, e2, h8, h4, h5, hne, List.eraseDups_cons, Ne.symm hne, Expr.pos]
  simp only [List.all_cons, List.all_nil, Bool.and_true, Bool.and_eq_true, Bool.not_eq_true'] at h1
  intro h
  exfalso
  rcases h with h | h
  · have z := h1.1
    cases a <;> first | (cases h; done) | (cases z; done)
  · have z := h1.2
    cases b <;> first | (cases h; done) | (cases z; done)
theorem sst3 (o : XOk c X F) {x y w : Str} {px py pw pt pt2 : Pos} {k k2} {a b d : Expr} (h : parB c.sc px.line [(x, px), (y, py), (w, pw)] [a, b, d] = true) :
    (X.env.scope.names.lookup x = some .local ∧ X.env.scope.names.lookup y = some .local ∧ X.env.scope.names.lookup w = some .local ∧ x ≠ y ∧ x ≠ w ∧ y ≠ w) ∧ swappedStores [.Tuple [.Name x px, .Name y py, .Name w pw] k pt] (.Tuple [a, b, d] k2 pt2) X.env = pure (some [x, y, w]) := by
  unfold parB at h
  simp only [Bool.and_eq_true, Bool.not_eq_true', decide_eq_true_eq] at h
  obtain ⟨⟨⟨⟨h1, h2⟩, h3⟩, h4⟩, h5⟩ := h
  simp only [List.all_cons, List.all_nil, Bool.and_true, Bool.and_eq_true, beq_iff_eq] at h2
  obtain ⟨⟨h6, _⟩, ⟨h7, h8⟩, h9, h10⟩ := h2
  have hne : (x ≠ y ∧ x ≠ w) ∧ y ≠ w := by
    simp at h3
    obtain ⟨⟨q1, q2⟩, q3⟩ := h3
    exact ⟨⟨q1, q2⟩, q3⟩
  obtain ⟨⟨n1, n2⟩, n3⟩ := hne
  refine ⟨⟨by rw [o.sc]; exact h6, by rw [o.sc]; exact h7, by rw [o.sc]; exact h9, n1, n2, n3⟩, ?_⟩
  have e1 : X.env.kindOf x = some .local := by unfold Env.kindOf; rw [o.sc]; exact h6
  have e2 : X.env.kindOf y = some .local := by unfold Env.kindOf; rw [o.sc]; exact h7
  have e3 : X.env.kindOf w = some .local := by unfold Env.kindOf; rw [o.sc]; exact h9
  unfold swappedStores
  simp [o.bk, e1, e2, e3, h8, h10, h4, h5, n1, n2, n3, List.eraseDups_cons, Ne.symm n1, Ne.symm n2, Ne.symm n3, Expr.pos]
  simp only [List.all_cons, List.all_nil, Bool.and_true, Bool.and_eq_true, Bool.not_eq_true'] at h1
  intro h
  exfalso
  rcases h with h | h | h
  · have z := h1.1
    cases a <;> first | (cases h; done) | (cases z; done)
  · have z := h1.2.1
    cases b <;> first | (cases h; done) | (cases z; done)
  · have z := h1.2.2
    cases d <;> first | (cases h; done) | (cases z; done)
theorem after_oks {K : PySem.W.Frag} {Ox : Addr → Prop} {Hb H H' : Hp} {σ : Sg} {env : En} {L : List Nat} {vs : List V} {ds : List D} (R : ER K Ox Hb H σ env) (s : Same H H') (h : Reps K (Of Ox σ env L) H' vs ds) :
    ER K Ox Hb H' σ (after (.l ds) L env) ∧ Reps K (Of Ox σ (after (.l ds) L env) []) H' vs ds := by
  unfold after
  split
  · exact ⟨R.ext' s, h⟩
  · split
    · rename_i n; exact ⟨R.ext' s, Reps.free ds vs n h⟩
    · exact ⟨(R.ext' s).dem _, reps_weak (R.ext' s).lst of_dem h⟩
theorem s_par2 {i j : Nat} {x y : Str} {a b : Expr} {px py pt pt2 pos : Pos} {kt k2} {f : En → Option (List D)} {la : List Nat} (hc : X.calm = true) (hN : X.N.Nodup) (hi : X.N[i]? = some x) (hj : X.N[j]? = some y) (hij : i ≠ j)
    (hx : X.env.scope.names.lookup x = some .local) (hy : X.env.scope.names.lookup y = some .local) (ha : PA X [a, b] (tA X.K f la)) (hw : swappedStores [.Tuple [.Name x px, .Name y py] kt pt] (.Tuple [a, b] k2 pt2) X.env = pure (some [x, y])) :
    PS X (.Assign [.Tuple [.Name x px, .Name y py] kt pt] (.Tuple [a, b] k2 pt2) pos) (tS X.K fun env => (f env).bind fun ds => (binds [.n i, .n j] ds (after (.l ds) la env)).map .nx) :=
  ps_mono (ps_par hc hN hi hj hij hx hy ha hw) fun D σ H hl ⟨Ox, Hb, env, q, R, e, k⟩ => by
    obtain ⟨ds, e1, e2⟩ := Option.bind_eq_some_iff.mp e
    obtain ⟨env', e3, rfl⟩ := Option.map_eq_some_iff.mp e2
    refine ⟨Ox, Hb, env, ds, R, e1, fun vs H1 s rr => ?_⟩
    obtain ⟨A, B⟩ := after_oks R s rr
    have hlen := binds_length e3
    match ds, vs, B, hlen with
    | [d1, d2], [v, w], .cons r1 (.cons r2 .nil), _ =>
      cases e3
      have hz : ∀ {z : Nat} {u : Str}, X.N[z]? = some u → z < (after (.l [d1, d2]) la env).length := fun h => by rw [after_length, ← R.len, hl]; exact ix_lt h
      have A1 := A.set (hz hi) r1
      refine ⟨v, w, rfl, k _ _ (A1.set (by rw [List.length_set]; exact hz hj) ?_)⟩
      exact rep_weak A.lst (of_set A.len) r2
theorem s_par3 {i j l : Nat} {x y z : Str} {a b d : Expr} {px py pz pt pt2 pos : Pos} {kt k2} {f : En → Option (List D)} {la : List Nat} (hc : X.calm = true) (hN : X.N.Nodup) (hi : X.N[i]? = some x) (hj : X.N[j]? = some y) (hl3 : X.N[l]? = some z) (hij : i ≠ j) (hil : i ≠ l) (hjl : j ≠ l)
    (hx : X.env.scope.names.lookup x = some .local) (hy : X.env.scope.names.lookup y = some .local) (hz3 : X.env.scope.names.lookup z = some .local) (ha : PA X [a, b, d] (tA X.K f la)) (hw : swappedStores [.Tuple [.Name x px, .Name y py, .Name z pz] kt pt] (.Tuple [a, b, d] k2 pt2) X.env = pure (some [x, y, z])) :
    PS X (.Assign [.Tuple [.Name x px, .Name y py, .Name z pz] kt pt] (.Tuple [a, b, d] k2 pt2) pos) (tS X.K fun env => (f env).bind fun ds => (binds [.n i, .n j, .n l] ds (after (.l ds) la env)).map .nx) :=
  ps_mono (ps_par3 hc hN hi hj hl3 hij hil hjl hx hy hz3 ha hw) fun D σ H hl ⟨Ox, Hb, env, q, R, e, k⟩ => by
    obtain ⟨ds, e1, e2⟩ := Option.bind_eq_some_iff.mp e
    obtain ⟨env', e3, rfl⟩ := Option.map_eq_some_iff.mp e2
    refine ⟨Ox, Hb, env, ds, R, e1, fun vs H1 s rr => ?_⟩
    obtain ⟨A, B⟩ := after_oks R s rr
    have hlen := binds_length e3
    match ds, vs, B, hlen with
    | [d1, d2, d3], [v, w, u], .cons r1 (.cons r2 (.cons r3 .nil)), _ =>
      cases e3
      have hz : ∀ {z : Nat} {u : Str}, X.N[z]? = some u → z < (after (.l [d1, d2, d3]) la env).length := fun h => by rw [after_length, ← R.len, hl]; exact ix_lt h
      have A1 := A.set (hz hi) r1
      have A2 := A1.set (by rw [List.length_set]; exact hz hj) (rep_weak A.lst (of_set A.len) r2)
      refine ⟨v, w, u, rfl, k _ _ (A2.set (by rw [List.length_set, List.length_set]; exact hz hl3) ?_)⟩
      exact rep_weak A1.lst (of_set A1.len) (rep_weak A.lst (of_set A.len) r3)
end
section
variable {X : Cx} {pins : List (Addr × Obj)} {σ : Sg} {H : Hp} {s : Shared} {c : Addr} {φ : Heap → Prop}
theorem inv_track (I : Inv X pins σ H s) (f : FpOk X pins H c) (h1 : φ s.heap) (h2 : ∃ o, s.heap.get? c = some o) (h3 : ∀ u v : Heap, φ u → (∀ o, u.get? c = some o → v.get? c = some o) → φ v) : Inv X pins σ (upd H c (.ext φ)) s := by
  obtain ⟨f1, f2, f3, f4, f5, f6⟩ := f
  have nn : ∀ {b : Addr} {u : HO}, H b = some u → b ≠ c := fun {b u} e z => by rw [z, f1] at e; cases e
  refine ⟨I.ok, I.os, I.bare, ⟨I.base.keep, I.base.slot, fun b o e n hx => ?_, I.base.there, fun b xs e => ?_, fun b o u e => ?_, fun b ps e => ?_⟩, I.loc, I.cell, ?_, fun x d e => ?_, fun p hp => ?_, fun b u q => ?_, I.len⟩
  · rw [upd_ne (fun z => ?_)]
    · exact I.base.free b o e n hx
    · subst z
      rcases f4 with z | z
      · exact hx z
      · exact absurd (Heap.lt_size e) (Nat.not_lt.mpr z)
  · have h := I.base.tups b xs e
    rw [upd_ne (nn h)]; exact h
  · have h := I.base.frzs b o u e
    rw [upd_ne (nn h)]; exact h
  · obtain ⟨more, h⟩ := I.base.tbls b ps e
    exact ⟨more, by rw [upd_ne (nn h)]; exact h⟩
  · rw [upd_ne (Ne.symm f2)]; exact I.free
  · rw [upd_ne (f5 x d e)]; exact I.freeC x d e
  · obtain ⟨a1, a2, a3⟩ := I.pin p hp
    exact ⟨a1, by rw [upd_ne (f6 p hp)]; exact a2, a3⟩
  · by_cases hb : b = c
    · subst hb
      rw [upd_same] at q
      cases q
      exact ⟨h1, h2, h3⟩
    · rw [upd_ne hb] at q
      exact (I.hok b u q).stay (fun _ _ _ z => z) (fun d z => by rw [upd_ne (nn z)]; exact z) fun d xs z => by rw [upd_ne (nn z)]; exact z
theorem inv_untrack (I : Inv X pins σ (upd H c (.ext φ)) s) (hn : H c = none) : Inv X pins σ H s ∧ φ s.heap ∧ c ≠ X.env.locals ∧ (∀ x d, X.env.cells.lookup x = some d → d ≠ c) ∧ ∀ p ∈ X.pn ++ pins, p.1 ≠ c := by
  have hc : upd H c (.ext φ) c = some (.ext φ) := upd_same
  have nc : ∀ {b : Addr}, upd H c (.ext φ) b = none → b ≠ c ∧ H b = none := fun {b} e => by
    have : b ≠ c := fun z => by rw [z, hc] at e; cases e
    rw [upd_ne this] at e
    exact ⟨this, e⟩
  have hne : ∀ {b : Addr} {u : HO}, upd H c (.ext φ) b = some u → (∀ ψ, u ≠ .ext ψ) → H b = some u := fun {b u} e n => by
    have : b ≠ c := fun z => by rw [z, hc] at e; cases e; exact n φ rfl
    rw [upd_ne this] at e; exact e
  refine ⟨⟨I.ok, I.os, I.bare, ⟨I.base.keep, I.base.slot, fun b o e n hx => ?_, I.base.there, fun b xs e => hne (I.base.tups b xs e) (fun ψ z => by cases z), fun b o u e => hne (I.base.frzs b o u e) (fun ψ z => by cases z), fun b ps e => ?_⟩, I.loc, I.cell, (nc I.free).2, fun x d e => (nc (I.freeC x d e)).2, fun p hp => ?_, fun b u q => ?_, I.len⟩, (I.hok c _ hc).1, fun z => ?_, fun x d e => (nc (I.freeC x d e)).1, fun p hp => (nc (I.pin p hp).2.1).1⟩
  · exact (nc (I.base.free b o e n hx)).2
  · obtain ⟨more, h⟩ := I.base.tbls b ps e
    exact ⟨more, hne h (fun ψ z => by cases z)⟩
  · obtain ⟨a1, a2, a3⟩ := I.pin p hp
    exact ⟨a1, (nc a2).2, a3⟩
  · have hb : b ≠ c := fun z => by rw [z, hn] at q; cases q
    have q2 : upd H c (.ext φ) b = some u := by rw [upd_ne hb]; exact q
    exact (I.hok b u q2).stay (fun _ _ _ z => z) (fun d z => hne z (fun ψ y => by cases y)) fun d xs z => hne z (fun ψ y => by cases y)
  · exact (nc I.free).1 z.symm
def itP (t : Bool) (j a : Addr) : Heap → Prop := fun h => if t = true then h.IsTupleIter j a 0 else h.IsListIter j a 0
theorem itP_stay {t : Bool} {j a : Addr} (u v : Heap) (h : itP t j a u) (k : ∀ o, u.get? j = some o → v.get? j = some o) : itP t j a v := by
  unfold itP at h ⊢
  split at h
  · rename_i q; rw [if_pos q]; exact h.at k
  · rename_i q; rw [if_neg q]; exact h.at k
theorem itP_there {t : Bool} {j a : Addr} {h : Heap} (p : itP t j a h) : ∃ o, h.get? j = some o := by
  unfold itP at p
  split at p
  · obtain ⟨o, e, _⟩ := p; exact ⟨o, e⟩
  · obtain ⟨o, e, _⟩ := p; exact ⟨o, e⟩
def ZH (t : Bool) (H : Hp) (a b zz pI pO ja jb : Addr) : Hp :=
  upd (upd (upd (upd (upd H zz (.ext fun h => IsZip h zz pI pO .none)) pI (.ext fun h => IsPair h pI (.ref ja) (.ref jb))) pO (.ext fun h => IsPair h pO .none .none)) ja (.ext (itP t ja a))) jb (.ext (itP false jb b))
theorem zh_ne {t : Bool} {a b zz pI pO ja jb d : Addr} (h1 : d ≠ zz) (h2 : d ≠ pI) (h3 : d ≠ pO) (h4 : d ≠ ja) (h5 : d ≠ jb) : ZH t H a b zz pI pO ja jb d = H d := by
  unfold ZH
  rw [upd_ne h5, upd_ne h4, upd_ne h3, upd_ne h2, upd_ne h1]
def Stx (X : Cx) (c : Addr) : Prop := c ∉ X.fs ∧ (c ∈ X.ex ∨ X.s_0.heap.objs.size ≤ c)
def SqB (K : PySem.W.Frag) (t : Bool) (H : Hp) (a : Addr) (xs : List V) : Prop := if t = true then SqT K H a xs else SqL K H a xs
def JZ (K : PySem.W.Frag) (t : Bool) (a b : Addr) : It := if t = true then ItzM K a b else Itz K a b
def tZp (X : Cx) (ta : TA) : TE := fun σ H Q => ta σ H fun vs H1 => ∃ a b xs ys t, vs = [.ref a, .ref b] ∧ SqB X.K t H1 a xs ∧ SqL X.K H1 b ys ∧ ∀ zz pI pO ja jb, ZipApart zz pI pO ja jb a b → (∀ c ∈ [zz, pI, pO, ja, jb], H1 c = none ∧ Stx X c) → Q (.ref zz) (ZH t H1 a b zz pI pO ja jb)
theorem z_track {t : Bool} {a b zz pI pO ja jb : Addr} (I : Inv X pins σ H s) (D : ZipApart zz pI pO ja jb a b) (f : ∀ d ∈ [zz, pI, pO, ja, jb], FpOk X pins H d)
    (z1 : IsZip s.heap zz pI pO .none) (z2 : IsPair s.heap pI (.ref ja) (.ref jb)) (z3 : IsPair s.heap pO .none .none) (z4 : itP t ja a s.heap) (z5 : itP false jb b s.heap) : Inv X pins σ (ZH t H a b zz pI pO ja jb) s := by
  have fk : ∀ {H' : Hp} {d : Addr}, FpOk X pins H d → H' d = none → FpOk X pins H' d := fun g n => ⟨n, g.2⟩
  have I1 := inv_track I (f zz (by simp)) (φ := fun h => IsZip h zz pI pO .none) z1 ⟨_, z1⟩ (fun u v p k => k _ p)
  have I2 := inv_track I1 (fk (f pI (by simp)) (by rw [upd_ne D.TIz]; exact (f pI (by simp)).1)) (φ := fun h => IsPair h pI (.ref ja) (.ref jb)) z2 ⟨_, z2⟩ (fun u v p k => k _ p)
  have I3 := inv_track I2 (fk (f pO (by simp)) (by rw [upd_ne D.TITO.symm, upd_ne D.TOz]; exact (f pO (by simp)).1)) (φ := fun h => IsPair h pO .none .none) z3 ⟨_, z3⟩ (fun u v p k => k _ p)
  have I4 := inv_track I3 (fk (f ja (by simp)) (by rw [upd_ne D.TOi1.symm, upd_ne D.TIi1.symm, upd_ne D.i1z]; exact (f ja (by simp)).1)) (φ := itP t ja a) z4 (itP_there z4) itP_stay
  exact inv_track I4 (fk (f jb (by simp)) (by rw [upd_ne D.i12.symm, upd_ne D.TOi2.symm, upd_ne D.TIi2.symm, upd_ne D.i2z]; exact (f jb (by simp)).1)) (φ := itP false jb b) z5 (itP_there z5) itP_stay
theorem z_untrack {t : Bool} {a b zz pI pO ja jb : Addr} (I : Inv X pins σ (ZH t H a b zz pI pO ja jb) s) (D : ZipApart zz pI pO ja jb a b) (f : ∀ d ∈ [zz, pI, pO, ja, jb], H d = none ∧ Stx X d) :
    Inv X pins σ H s ∧ (∀ d ∈ [zz, pI, pO, ja, jb], FpOk X pins H d) ∧ IsZip s.heap zz pI pO .none ∧ IsPair s.heap pI (.ref ja) (.ref jb) ∧ IsPair s.heap pO .none .none ∧ itP t ja a s.heap ∧ itP false jb b s.heap := by
  obtain ⟨I5, e5, a5, b5, c5⟩ := inv_untrack I (by rw [upd_ne D.i12.symm, upd_ne D.TOi2.symm, upd_ne D.TIi2.symm, upd_ne D.i2z]; exact (f jb (by simp)).1)
  obtain ⟨I4, e4, a4, b4, c4⟩ := inv_untrack I5 (by rw [upd_ne D.TOi1.symm, upd_ne D.TIi1.symm, upd_ne D.i1z]; exact (f ja (by simp)).1)
  obtain ⟨I3, e3, a3, b3, c3⟩ := inv_untrack I4 (by rw [upd_ne D.TITO.symm, upd_ne D.TOz]; exact (f pO (by simp)).1)
  obtain ⟨I2, e2, a2, b2, c2⟩ := inv_untrack I3 (by rw [upd_ne D.TIz]; exact (f pI (by simp)).1)
  obtain ⟨I1, e1, a1, b1, c1⟩ := inv_untrack I2 (f zz (by simp)).1
  refine ⟨I1, fun d hd => ?_, e1, e2, e3, e4, e5⟩
  obtain ⟨g1, g2, g3⟩ := f d hd
  have e' : d = zz ∨ d = pI ∨ d = pO ∨ d = ja ∨ d = jb := by simpa using hd
  rcases e' with q | q | q | q | q <;> subst q
  · exact ⟨g1, a1, g2, g3, b1, c1⟩
  · exact ⟨g1, a2, g2, g3, b2, c2⟩
  · exact ⟨g1, a3, g2, g3, b3, c3⟩
  · exact ⟨g1, a4, g2, g3, b4, c4⟩
  · exact ⟨g1, a5, g2, g3, b5, c5⟩
end
section
variable {X : Cx} {e e2 : Expr} {ta : TA} {p pos tpos : Pos} {elts : List Expr} {kk : Nat}
theorem pe_zipV (hg : Gl X "zip") (hm : X.mg "zip" = none) (ha : PA X [e, e2] ta) (hs : starEach [e, e2] X.env = (false, eval e X.env) :: starEach [e2] X.env := by rfl) (hpl : (backTo pos (starEach [e2] X.env)).any (·.1) = false := by rfl) :
    PE X (.Call (.Name "zip" p) [e, e2] [] pos) (tZp X ta) := by
  refine ⟨fun pins s σ H Q I h => ?_⟩
  refine Call_ (ld_blt I hg hm PyProof.Rows.boot_zip (PyProof.Rows.callWith_type1 (thn (ha.run pos pins s σ H _ I h) fun us0 st1 ⟨vs1, Hh1, J1, r1, qq1⟩ => ?_) hs hpl))
  obtain ⟨a, b, xs, ys, t, ex0, qx, qy, qq1⟩ := qq1
  subst ex0
  cases r1 with
  | cons r rs0 =>
    cases rs0 with
    | cons r' rs0 =>
      cases rs0
      cases r
      cases r'
      have fr5 : ∀ c, c ∈ [st1.heap.objs.size + 4, st1.heap.objs.size + 2, st1.heap.objs.size + 3, st1.heap.objs.size, st1.heap.objs.size + 1] → FpOk X pins Hh1 c := fun c hcm0 => by
        have e0' : c = st1.heap.objs.size + 4 ∨ c = st1.heap.objs.size + 2 ∨ c = st1.heap.objs.size + 3 ∨ c = st1.heap.objs.size ∨ c = st1.heap.objs.size + 1 := by simpa using hcm0
        have hle0 : st1.heap.objs.size ≤ c := by rcases e0' with z | z | z | z | z <;> (rw [z]; simp)
        exact J1.fpOk hle0 (J1.hok.fresh hle0)
      have fin : ∀ (hh' : Heap), ZipApart (st1.heap.objs.size + 4) (st1.heap.objs.size + 2) (st1.heap.objs.size + 3) st1.heap.objs.size (st1.heap.objs.size + 1) a b → IsZip hh' (st1.heap.objs.size + 4) (st1.heap.objs.size + 2) (st1.heap.objs.size + 3) .none → IsPair hh' (st1.heap.objs.size + 2) (.ref st1.heap.objs.size) (.ref (st1.heap.objs.size + 1)) →
          IsPair hh' (st1.heap.objs.size + 3) .none .none → itP t st1.heap.objs.size a hh' → itP false (st1.heap.objs.size + 1) b hh' → (∀ c o, st1.heap.get? c = some o → hh'.get? c = some o) → ∃ x H', Inv X pins σ H' { st1 with heap := hh' } ∧ RelV x (.ref (st1.heap.objs.size + 4)) ∧ Q x H' := fun hh' D z1 z2 z3 z4 z5 gk =>
        ⟨.ref (st1.heap.objs.size + 4), _, z_track (J1.kept (t' := st1.toks) gk) D fr5 z1 z2 z3 z4 z5, rfl, qq1 _ _ _ _ _ D fun c hc => ⟨(fr5 c hc).1, (fr5 c hc).2.2.1, (fr5 c hc).2.2.2.1⟩⟩
      obtain ⟨it2, rw2, w2, _⟩ := J1.list qy
      cases t with
      | false =>
        obtain ⟨it1, rw1, w1, _⟩ := J1.list (show SqL X.K Hh1 a xs from qx)
        exact call_zip_2 w1.isList w2.isList fun hh' fz_ fI fO g1 g2 gs gk => fin hh' (PySem.W.ktu_apart st1.heap.objs.size a b w1.lt w2.lt) fz_ fI fO g1 g2 gk
      | true =>
        obtain ⟨it1, rw1, w1, _⟩ := J1.tuple (show SqT X.K Hh1 a xs from qx)
        obtain ⟨oo1, eo1, _⟩ := id w1
        exact call_zipM (show st1.heap.IsTuple a it1.toArray from w1) w2.isList fun hh' fz_ fI fO g1 g2 gs gk => fin hh' (PySem.W.ktu_apart st1.heap.objs.size a b (Heap.lt_size eo1) w2.lt) fz_ fI fO g1 g2 gk
def wiZ (X : Cx) (p : Nat) : TI := fun σ H Rk => ∃ zz pI pO ja jb a b t xs ys H0, σ[p]? = some (some (.ref zz)) ∧ H = ZH t H0 a b zz pI pO ja jb ∧ ZipApart zz pI pO ja jb a b ∧ (∀ c ∈ [zz, pI, pO, ja, jb], H0 c = none ∧ Stx X c) ∧ SqB X.K t H0 a xs ∧ SqL X.K H0 b ys ∧ Rk (JZ X.K t a b) H0
theorem pi_zipV {i : Nat} {x : Str} {px : Pos} (hi : X.N[i]? = some x) (hv : Vis X.env.scope x) (hd : (x == ("__debug__" : Str)) = false) (hcd : (x == ("__classdict__" : Str)) = false) : PI X (.Tuple elts kk tpos) (.Name x px) (wiZ X i) := by
  refine ⟨fun pins s σ H R I ⟨zz, pI, pO, ja, jb, a, b, t, xs, ys, H0, e1, e2, D, f, qx, qy, q⟩ => ?_⟩
  refine thn ((pe_var (pos := px) hi hv hd hcd).run pins s σ H (fun v H' => v = .ref zz ∧ H' = H) I ⟨_, e1, rfl, rfl⟩) fun v s1 ⟨x1, H1, I1, r1, hx, hH⟩ => ?_
  subst hx hH e2
  cases r1
  obtain ⟨I0, fp, z1, z2, z3, z4, z5⟩ := z_untrack I1 D f
  refine wpAny_pyIter_zip z1 ?_
  cases t with
  | false => exact ⟨zz, [zz, pI, pO, ja, jb], _, _, H0, rfl, I0, turn_zip D, ⟨z1, z2, ⟨_, _, z3⟩, z4, z5⟩, fp, q⟩
  | true => exact ⟨zz, [zz, pI, pO, ja, jb], _, _, H0, rfl, I0, turn_zipM D, ⟨z1, z2, ⟨_, _, z3⟩, z4, z5⟩, fp, q⟩
end
/-- p = zip(..); x.append(min([elt for t in p])) -/
def zapF (p i : Nat) (t : Tg) (vs : List Nat) (fa : En → Option (List D)) (fe : En → Option RV) (env : En) : Option Res :=
  (fa env).bind fun ds => (zipV ds).bind fun its => if its.length ≤ LIM ∧ p ≠ i then
    (compL (cF t vs [] (fun _ => some true) fe (env.set p .no)) its).bind fun ys => (bF .mn [.list ys]).bind fun r => match r, (env.set p .no)[i]? with
      | .v (.int m), some (.own es) => if es.length < LIM then some (.nx ((env.set p .no).set i (.own (es ++ [.int m])))) else none
      | _, _ => none
    else none
section
variable {X : Cx} {e e2 : Expr}
theorem s_zap {p i : Nat} {pn x : Str} {t : Tg} {elts : List Expr} {kk : Nat} {tpos pz pz2 pp pos1 pos2 p1 p2 cpos pm pm2 plc pq : Pos} {elt : Expr} {scope : Scope} {own : List (Str × Nat)} {fa : En → Option (List D)} {fe : En → Option RV} {lelt : List Nat}
    (hc : X.calm = true) (hu : X.A.units + 100 < cLine) (hN : X.N.Nodup) (hp : X.N[p]? = some pn) (hpl : Loc X.env.scope pn) (hpf : X.fn pn = true ∨ X.env.scope.names.lookup pn = some .local) (hpv : Vis X.env.scope pn) (hpd : (pn == ("__debug__" : Str)) = false) (hpcd : (pn == ("__classdict__" : Str)) = false)
    (hi : X.N[i]? = some x) (hv : Vis X.env.scope x) (hd : (x == ("__debug__" : Str)) = false) (hcd : (x == ("__classdict__" : Str)) = false)
    (hgz : Gl X "zip") (hmz : X.mg "zip" = none) (hgm : Gl X "min") (hmm : X.mg "min" = none) (ha : PA X [e, e2] (tAC X.K fa [])) (hs1 : isStar e = false) (hs2 : isStar e2 = false)
    (ok : BlkOk X.N X.env.scope scope own)
    (hg : ∀ (s : Shared) (H : Hp) (C : Addr) (cl : List (Str × Addr)) (fp : List Addr), PG (X.blk s H scope (compEnvC scope cl C X.env) fp) (.Tuple elts kk tpos) (tG X.K t))
    (he : ∀ (s : Shared) (H : Hp) (C : Addr) (cl : List (Str × Addr)) (fp : List Addr), PE (X.blk s H scope (compEnvC scope cl C X.env) fp) elt (tE X.K fe lelt))
    (hvv : ∀ j ∈ tgSlots t, j ∈ own.map (·.2)) (hln : (p2.endLine == cpos.line) = true) {sts : List Stmt} {g : En → Option Res} (hrest : PSs X sts (tS X.K g)) :
    PSs X (.Assign [.Name pn pq] (.Call (.Name "zip" pz) [e, e2] [] pz2) pos1 :: .Expr (.Call (.Attribute (.Name x p1) "append" p2) [.Call (.Name "min" pm) [.ListComp elt [⟨.Tuple elts kk tpos, .Name pn pp, [], 0⟩] scope plc] [] pm2] [] cpos) pos2 :: sts)
      (tS X.K fun env => (zapF p i t (own.map (·.2)) fa fe env).bind fun q => match q with
        | .nx e => g e
        | o => some o) := by
  have hmin : bootBuiltins "min" = some (.builtin "min") := by decide +kernel
  have hS1 := ps_set (X := X) (pos := pos1) (pos' := pq) hN hp hpl (pe_zipV (p := pz) (pos := pz2) hgz hmz ha (by rw [star_cons hs1]) (star_any (by rw [List.all_cons, hs2]; rfl))) (swaps_no rfl) hpf
  have hcomp : PE X (.ListComp elt [⟨.Tuple elts kk tpos, .Name pn pp, [], 0⟩] scope plc) (tLc (wiZ X p) (tG X.K t) (tT X.K fun _ => some true) (tE X.K fe lelt) (own.map (·.2))) :=
    pe_lc hc hN (pi_zipV hp hpv hpd hpcd) ok hg (fun s H C cl fp => t_yes (env0 := [])) he (fun _ => rfl)
  have hcall := pe_callB (p := pm) (pos := pm2) (b_mn hc hu) hgm hmm hmin (pa_cons hcomp pa_nil)
  have hS2 := ps_expr (pos := pos2) (pe_bm (apos := p2) (cpos := cpos) PySem.F.plainAttrs_list PySem.F.slot_list_append PySem.F.type_list_append mt_append (pe_var (pos := p1) hi hv hd hcd) (pa_cons hcall pa_nil) (by rfl) (by rfl) hln)
  refine pss_mono (pss_cons hS1 (pss_cons hS2 hrest)) fun D σ H hl ⟨Ox, Hb, env, q, R, eq, k⟩ => ?_
  obtain ⟨q1, eq1, eq2⟩ := Option.bind_eq_some_iff.mp eq
  unfold zapF at eq1
  obtain ⟨ds, f1, f2⟩ := Option.bind_eq_some_iff.mp eq1
  obtain ⟨its, f3, f4⟩ := Option.bind_eq_some_iff.mp f2
  split at f4
  · rename_i hlen
    obtain ⟨hlen, hpi⟩ := hlen
    obtain ⟨ys, f5, f6⟩ := Option.bind_eq_some_iff.mp f4
    obtain ⟨r, f7, f8⟩ := Option.bind_eq_some_iff.mp f6
    split at f8
    · rename_i m es hown
      split at f8
      · rename_i hes
        cases f8
        refine ⟨Ox, Hb, env, ds, R, f1, fun vs H1 s1 c1 => ?_⟩
        have R1 := R.ext' s1
        have hpe : p < env.length := by rw [← R.len, hl]; exact ix_lt hp
        have L1 := R1.lst (L := [])
        -- the two sources
        obtain ⟨a, b, xs, ysv, tt, e0, qx, qy, hgood⟩ : ∃ a b xs ysv tt, vs = [.ref a, .ref b] ∧ SqB X.K tt H1 a xs ∧ SqL X.K H1 b ysv ∧ Good X.K (Og false Ox σ env []) H1 (JZ X.K tt a b) its := by
          have hno : notOwn (Pb false σ env []) H1 = H1 := by
            funext a
            exact notOwn_no fun z => Bool.noConfusion z.1
          unfold zipV at f3
          split at f3
          · rename_i xs ys
            cases f3
            cases c1 with
            | cons h1 c1 =>
              cases c1 with
              | cons h2 c1 =>
                cases c1
                obtain ⟨a, vs, rfl, q, r⟩ := h1
                obtain ⟨b, us, rfl, q2, r2⟩ := h2
                have G := good_zipL (Ox := Og false Ox σ env []) (P := Pb false σ env []) L1 po_of (fun z => Bool.noConfusion z.1) q r (fun z => Bool.noConfusion z.1) q2 r2
                rw [hno] at G
                exact ⟨a, b, vs, us, false, rfl, .inl (.inl q), .inl (.inl q2), G⟩
          · rename_i xs ys
            cases f3
            cases c1 with
            | cons h1 c1 =>
              cases c1 with
              | cons h2 c1 =>
                cases c1
                obtain ⟨b, us, rfl, q2, r2⟩ := h2
                cases (show Rep _ _ _ _ (.tuple xs) from h1) with
                | tup q r =>
                  have G := good_zipM (Ox := Og false Ox σ env []) (P := Pb false σ env []) L1 po_of q r (fun z => Bool.noConfusion z.1) q2 r2
                  rw [hno] at G
                  exact ⟨_, b, _, us, true, rfl, q, .inl (.inl q2), G⟩
          · cases f3
        refine ⟨a, b, xs, ysv, tt, e0, qx, qy, fun zz pI pO ja jb Da fz => ?_⟩
        -- the name is bound
        have R2 : ER X.K Ox Hb H1 (σ.set p (some (.ref zz))) (env.set p .no) := R1.drop hpe
        obtain ⟨al, vl, g1, g2, g3, g4, g5⟩ := R2.own i es hown
        have ne : ∀ c ∈ [zz, pI, pO, ja, jb], al ≠ c := fun c hc z => by
          have := (fz c hc).1
          rw [← z, g4] at this; cases this
        have hal : ZH tt H1 a b zz pI pO ja jb al = some (.lst vl) := by
          rw [zh_ne (ne zz (by simp)) (ne pI (by simp)) (ne pO (by simp)) (ne ja (by simp)) (ne jb (by simp))]; exact g4
        refine ⟨.ref al, g1, .inl ⟨rfl, vl, .inl (.inl hal)⟩, ?_⟩
        have hog : ∀ a, Og false Ox (σ.set p (some (.ref zz))) (env.set p .no) [] a → Og false Ox σ env [] a := fun a z => by
          rcases z with z | ⟨_, j, nj, ⟨es', z1⟩, z2⟩
          · exact .inl z
          · by_cases hj : j = p
            · subst hj; rw [List.getElem?_set_self hpe] at z1; cases z1
            · rw [List.getElem?_set_ne (Ne.symm hj)] at z1 z2
              exact .inr ⟨rfl, j, by simp, ⟨es', z1⟩, z2⟩
        have G2 : Good X.K (Og false Ox (σ.set p (some (.ref zz))) (env.set p .no) []) H1 (JZ X.K tt a b) its :=
          ⟨hgood.stop, hgood.go, fun j d H x H' sm hd hy => by
            obtain ⟨s3, rep⟩ := hgood.yld j d H x H' sm hd hy
            exact ⟨s3, fun O ho hol => rep O (fun a z => (ho a z).imp (hog a) id) hol⟩⟩
        unfold tCons tCB tNil
        dsimp only
        refine comp_core (Ox := Ox) (Hb := Hb) (H1 := H1) (J := JZ X.K tt a b) (ls := []) (lelt := lelt) R2 hlen f5 hvv G2 (fun v H2 s2 rr => ?_) fun Rk hk => ⟨zz, pI, pO, ja, jb, a, b, tt, xs, ysv, H1, List.getElem?_set_self (by rw [R.len]; exact hpe), rfl, Da, fz, qx, qy, hk⟩
        -- the least one
        have L2 := (R2.ext' s2).lst (L := [] ++ lelt)
        refine ⟨Of Ox (σ.set p (some (.ref zz))) (env.set p .no) ([] ++ lelt), [.list ys], .v (.int m), L2, .cons (rr.rc L2) .nil, f7, fun w H3 s3 rw3 => ?_⟩
        cases (show Rep _ _ _ w (.int m) from rw3)
        have S := s2.trans s3
        have A1 := R2.ext' S
        have hz := lim_le
        refine ⟨al, vl, .int m, rfl, rfl, S _ _ g4, by rw [g5.length]; omega, Ox, Hb, _, q, A1.mut hown g1 ((reps_ext S R2.lst g5).append (.cons (.int m) .nil)), eq2, k⟩
      · cases f8
    · cases f8
  · cases f4
end
mutual
/-- an expression that does not look at the slot i -/
def smpE (i : Nat) : E → Bool
  | .var j => j != i
  | .lit _ => true
  | .bin _ a b => smpE i a && smpE i b
  | .call _ es => smpEs i es
  | .bi _ es => smpEs i es
  | _ => false
def smpEs (i : Nat) : List E → Bool
  | [] => true
  | e :: es => smpE i e && smpEs i es
end
def smpS (i : Nat) : S → Bool
  | .asg j e => j != i && (smpE i e && !(lkE e).contains i)
  | .aug j _ e => j != i && smpE i e
  | _ => false
def pairT (i : Nat) : Tg → Bool
  | .t [.n j, .n k] => j != i && k != i
  | _ => false
theorem rdv_set {i j : Nat} {s : Sl} {env : En} (h : j ≠ i) : rdv (env.set i s) j = rdv env j := by
  unfold rdv
  rw [List.getElem?_set_ne (Ne.symm h)]
mutual
theorem smpE_ok {F : FE} {i : Nat} {s : Sl} {env : En} : ∀ {e : E}, smpE i e = true → dnE F e (env.set i s) = dnE F e env
  | .var j, h => by
    unfold smpE at h
    show rdv _ _ = rdv _ _
    exact rdv_set (by simpa using h)
  | .lit _, _ => rfl
  | .bin o a b, h => by
    unfold smpE at h
    rw [Bool.and_eq_true] at h
    show ((dnE F a (env.set i s)).bind fun x => (dnE F b (env.set i s)).bind fun y => o2 o x.d y.d) = _
    rw [smpE_ok h.1, smpE_ok h.2]; rfl
  | .call f es, h => by
    unfold smpE at h
    show ((dnEs F es (env.set i s)).bind fun ds => F f ds) = _
    rw [smpEs_ok h]; rfl
  | .bi f es, h => by
    unfold smpE at h
    show ((dnEs F es (env.set i s)).bind fun ds => bF f ds) = _
    rw [smpEs_ok h]; rfl
  | .neg _, h => by cases h
  | .cmp .., h => by cases h
  | .chn .., h => by cases h
  | .and .., h => by cases h
  | .or .., h => by cases h
  | .not _, h => by cases h
  | .ife .., h => by cases h
  | .tup _, h => by cases h
  | .lst _, h => by cases h
  | .ix .., h => by cases h
  | .sl .., h => by cases h
  | .rev _, h => by cases h
  | .isi .., h => by cases h
  | .comp .., h => by cases h
  | .comp2 .., h => by cases h
  | .slen .., h => by cases h
  | .att .., h => by cases h
  | .meth .., h => by cases h
  | .new .., h => by cases h
theorem smpEs_ok {F : FE} {i : Nat} {s : Sl} {env : En} : ∀ {es : List E}, smpEs i es = true → dnEs F es (env.set i s) = dnEs F es env
  | [], _ => rfl
  | e :: es, h => by
    unfold smpEs at h
    rw [Bool.and_eq_true] at h
    show ((dnE F e (env.set i s)).bind fun x => (dnEs F es (env.set i s)).map fun xs => x.d :: xs) = _
    rw [smpE_ok h.1, smpEs_ok h.2]; rfl
end
theorem dem_set {i : Nat} {s : Sl} : ∀ {L : List Nat} {env : En}, i ∉ L → demote (env.set i s) L = (demote env L).set i s
  | [], _, _ => rfl
  | j :: L, env, h => by
    have hj : j ≠ i := fun z => h (by simp [z])
    have hL : i ∉ L := fun z => h (by simp [z])
    unfold demote
    rw [List.getElem?_set_ne (Ne.symm hj)]
    cases hq : env[j]? with
    | none => exact dem_set hL
    | some q =>
      cases q with
      | own ds =>
        show demote ((env.set i s).set j (.v (.list ds))) L = _
        rw [List.set_comm _ _ (Ne.symm hj)]
        exact dem_set hL
      | no => exact dem_set hL
      | v d => exact dem_set hL
theorem dem_get {i : Nat} : ∀ {L : List Nat} {env : En}, i ∉ L → (demote env L)[i]? = env[i]?
  | [], _, _ => rfl
  | j :: L, env, h => by
    have hj : j ≠ i := fun z => h (by simp [z])
    have hL : i ∉ L := fun z => h (by simp [z])
    unfold demote
    split
    · rw [dem_get hL, List.getElem?_set_ne hj]
    · exact dem_get hL
theorem after_set {i : Nat} {s : Sl} {r : RV} {L : List Nat} {env : En} (h : i ∉ L) : after r L (env.set i s) = (after r L env).set i s := by
  unfold after
  split
  · rfl
  · split
    · rfl
    · exact dem_set h
theorem after_get {i : Nat} {r : RV} {L : List Nat} {env : En} (h : i ∉ L) : (after r L env)[i]? = env[i]? := by
  unfold after
  split
  · rfl
  · split
    · rfl
    · exact dem_get h
theorem smpS_ok {F : FE} {i : Nat} : ∀ {st : S}, smpS i st = true → ∀ {env : En} {q : Res}, dnS F st env = some q → ∃ e, q = .nx e ∧ e[i]? = env[i]?
  | .asg j e, h, env, q, hq => by
    unfold smpS at h
    rw [Bool.and_eq_true, Bool.and_eq_true, bne_iff_ne, Bool.not_eq_true'] at h
    obtain ⟨r, e1, rfl⟩ := Option.map_eq_some_iff.mp (show (dnE F e env).map (fun r => Res.nx ((after r (lkE e) env).set j r.sl)) = some q from hq)
    refine ⟨_, rfl, ?_⟩
    rw [List.getElem?_set_ne h.1, after_get (by simpa using h.2.2)]
  | .aug j o e, h, env, q, hq => by
    unfold smpS at h
    rw [Bool.and_eq_true, bne_iff_ne] at h
    obtain ⟨x, e1, hq⟩ := Option.bind_eq_some_iff.mp (show (rdv env j).bind (fun x => (dnE F e env).bind fun y => match x.d, y.d with
      | .int a, .int b => (o2 o (.int a) (.int b)).map fun r => Res.nx (env.set j r.sl)
      | _, _ => none) = some q from hq)
    obtain ⟨y, e2, hq⟩ := Option.bind_eq_some_iff.mp hq
    split at hq
    · obtain ⟨r, e3, rfl⟩ := Option.map_eq_some_iff.mp hq
      exact ⟨_, rfl, List.getElem?_set_ne h.1⟩
    · cases hq
  | .unp .., h, _, _, _ => by cases h
  | .par .., h, _, _, _ => by cases h
  | .app .., h, _, _, _ => by cases h
  | .ext .., h, _, _, _ => by cases h
  | .seti .., h, _, _, _ => by cases h
  | .augi .., h, _, _, _ => by cases h
  | .ret .., h, _, _, _ => by cases h
  | .ite .., h, _, _, _ => by cases h
  | .whl .., h, _, _, _ => by cases h
  | .for_ .., h, _, _, _ => by cases h
  | .brk, h, _, _, _ => by cases h
  | .cnt, h, _, _, _ => by cases h
  | .pas, h, _, _, _ => by cases h
  | .ex .., h, _, _, _ => by cases h
  | .nev, h, _, _, _ => by cases h
  | .zap .., h, _, _, _ => by cases h
theorem smpSs_ok {F : FE} {i : Nat} : ∀ {ss : List S}, ss.all (smpS i) = true → ∀ {env : En} {q : Res}, dnSs F ss env = some q → ∃ e, q = .nx e ∧ e[i]? = env[i]?
  | [], _, env, q, hq => by
    cases (show some (Res.nx env) = some q from hq)
    exact ⟨_, rfl, rfl⟩
  | s :: ss, h, env, q, hq => by
    rw [List.all_cons, Bool.and_eq_true] at h
    obtain ⟨q1, e1, e2⟩ := Option.bind_eq_some_iff.mp (show (dnS F s env).bind (fun q => match q with
      | .nx e => dnSs F ss e
      | o => some o) = some q from hq)
    obtain ⟨e, rfl, g1⟩ := smpS_ok h.1 e1
    obtain ⟨e', rfl, g2⟩ := smpSs_ok h.2 e2
    exact ⟨e', rfl, g2.trans g1⟩
/-- a statement that leaves the slot i alone; its list is kept out of sight -/
def tOw (K : PySem.W.Frag) (i : Nat) (f : En → Option Res) : TS := fun D σ H => ∃ Ox Hb env e v, σ[i]? = some v ∧ ER K Ox Hb H σ (env.set i .no) ∧ f env = some (.nx e) ∧ ∀ σ' H', σ'[i]? = some v → ER K Ox Hb H' σ' (e.set i .no) → D.nx σ' H'
section
variable {X : Cx} {st : Stmt} {sts : List Stmt} {e : Expr} {pos pos' : Pos} {i : Nat}
theorem ow_nil : PSs X [] (tOw X.K i fun env => some (.nx env)) := pss_mono pss_nil fun D σ H hl ⟨Ox, Hb, env, e, v, hv, R, e1, k⟩ => by cases e1; exact k σ H hv R
theorem ow_cons {F : FE} {s : S} {ss : List S} (hs1 : smpS i s = true) (h : PS X st (tOw X.K i (dnS F s))) (hs : PSs X sts (tOw X.K i (dnSs F ss))) : PSs X (st :: sts) (tOw X.K i (dnSs F (s :: ss))) :=
  pss_mono (pss_cons h hs) fun D σ H hl ⟨Ox, Hb, env, e, v, hv, R, e1, k⟩ => by
    obtain ⟨q1, f1, f2⟩ := Option.bind_eq_some_iff.mp (show (dnS F s env).bind (fun q => match q with
      | .nx e => dnSs F ss e
      | o => some o) = some (.nx e) from e1)
    obtain ⟨e2, rfl, _⟩ := smpS_ok hs1 f1
    exact ⟨Ox, Hb, env, e2, v, hv, R, f1, fun σ' H' hv' R' => ⟨Ox, Hb, e2, e, v, hv', R', f2, k⟩⟩
theorem ow_asg {F : FE} {j : Nat} {y : E} {x : Str} (hN : X.N.Nodup) (hj : X.N[j]? = some x) (hx : Loc X.env.scope x) (hf : X.fn x = true ∨ X.env.scope.names.lookup x = some .local) (he : PE X e (tE X.K (dnE F y) (lkE y))) (hs : swapsWith e (some (.Name x pos')) pos.line X.env = pure false) (hm : smpS i (.asg j y) = true) :
    PS X (.Assign [.Name x pos'] e pos) (tOw X.K i (dnS F (.asg j y))) := by
  unfold smpS at hm
  rw [Bool.and_eq_true, Bool.and_eq_true, bne_iff_ne, Bool.not_eq_true'] at hm
  obtain ⟨m1, m2, m3⟩ := hm
  have m3 : i ∉ lkE y := by simpa using m3
  refine ps_mono (ps_set hN hj hx he hs hf) fun D σ H hl ⟨Ox, Hb, env, e', v, hv, R, e1, k⟩ => ?_
  obtain ⟨r, f1, f2⟩ := Option.map_eq_some_iff.mp (show (dnE F y env).map (fun r => Res.nx ((after r (lkE y) env).set j r.sl)) = some (.nx e') from e1)
  cases f2
  refine ⟨Ox, Hb, env.set i .no, r, R, by rw [smpE_ok m2]; exact f1, fun w H1 s rr => k _ _ ?_ ?_⟩
  · rw [List.getElem?_set_ne m1]; exact hv
  · obtain ⟨A, B⟩ := after_ok R s rr
    have := A.put s B (i := j) (by rw [after_length, ← R.len, hl]; exact ix_lt hj)
    rw [after_set m3, List.set_comm _ _ (Ne.symm m1)] at this
    exact this
theorem ow_aug {F : FE} {j : Nat} {y : E} {x : Str} {op : Operator} {o : O2} (hN : X.N.Nodup) (hj : X.N[j]? = some x) (hx : Loc X.env.scope x) (hf : X.fn x = true ∨ X.env.scope.names.lookup x = some .local) (he : PE X e (tC X.K (dnE F y) (lkC y))) (ho : OpR X (inplaceOp op) (rIq fun i j => o2 o (.int i) (.int j))) (hm : smpS i (.aug j o y) = true) :
    PS X (.AugAssign (.Name x pos') op e pos) (tOw X.K i (dnS F (.aug j o y))) := by
  unfold smpS at hm
  rw [Bool.and_eq_true, bne_iff_ne] at hm
  obtain ⟨m1, m2⟩ := hm
  refine ps_mono (ps_aug hN hj hx he ho hf) fun D σ H hl ⟨Ox, Hb, env, e', v, hv, R, e1, k⟩ => ?_
  obtain ⟨x0, f1, e1⟩ := Option.bind_eq_some_iff.mp (show (rdv env j).bind (fun x => (dnE F y env).bind fun y => match x.d, y.d with
    | .int a, .int b => (o2 o (.int a) (.int b)).map fun r => Res.nx (env.set j r.sl)
    | _, _ => none) = some (.nx e') from e1)
  obtain ⟨y0, f2, e1⟩ := Option.bind_eq_some_iff.mp e1
  split at e1
  · rename_i a b ha hb
    obtain ⟨r, e3, e4⟩ := Option.map_eq_some_iff.mp e1
    cases e4
    obtain ⟨n, rfl⟩ := o2_int e3
    have f1 : rdv (env.set i .no) j = some x0 := by rw [rdv_set m1]; exact f1
    rcases env_cases f1 with ⟨d, q, rfl⟩ | ⟨ds, q, rfl⟩
    · cases (show d = .int a from ha)
      obtain ⟨w, g1, g2⟩ := R.val j _ q
      cases g2
      refine ⟨_, g1, Ox, Hb, env.set i .no, y0, R, by rw [smpE_ok m2]; exact f2, fun w H1 s c => ?_⟩
      rw [hb] at c
      refine ⟨a, b, n, rfl, rc_int c, e3, k _ _ (by rw [List.getElem?_set_ne m1]; exact hv) ?_⟩
      have := (R.ext' s).set (i := j) (v := .int n) (d := .int n) (by rw [← R.len, hl]; exact ix_lt hj) (.int n)
      rw [List.set_comm _ _ (Ne.symm m1)] at this
      exact this
    · cases ha
  · cases e1
end
theorem wipe_get {i : Nat} (σ : Sg) : ∀ vs : List Nat, i ∉ vs → (wipe σ vs)[i]? = σ[i]?
  | [], _ => rfl
  | v :: vs, h => by
    show ((wipe σ vs).set v none)[i]? = _
    rw [List.getElem?_set_ne (fun z => h (by simp [z])), wipe_get σ vs fun z => h (by simp [z])]
theorem reps_later {K : PySem.W.Frag} {O Ox P : Addr → Prop} {H H' : Hp} (ol : ∀ a, O a → ∃ xs, H a = some (.lst xs)) (po : ∀ a, Ox a ∨ P a → O a) (s : Same (notOwn P H) H') {vs : List V} {ds : List D} (h : Reps K O H vs ds) :
    ∀ O' : Addr → Prop, (∀ a, O' a → Ox a ∨ notOwn P H a = none) → Reps K O' H' vs ds := fun O' oo => by
  have h1 : Reps K (fun a => Ox a ∨ P a) H vs ds := reps_weak ol po h
  refine Reps.mono (fun a o e n => s a o ?_) (fun a z => ol a (po a z)) (fun a z => ?_) ds vs h1
  · rw [notOwn_no (fun z => n (.inr z))]; exact e
  · rcases oo a z with q | q
    · exact .inl (.inl q)
    · by_cases p : P a
      · exact .inl (.inr p)
      · rw [notOwn_no p] at q; exact .inr q
theorem bind_pair {i : Nat} {t : Tg} (h : pairT i t = true) {d : D} {env e : En} (hb : bind t d env = some e) : i ∉ tgSlots t ∧ e[i]? = env[i]? ∧ ∀ s, bind t d (env.set i s) = some (e.set i s) := by
  unfold pairT at h
  split at h
  · rename_i j k
    rw [Bool.and_eq_true, bne_iff_ne, bne_iff_ne] at h
    cases d with
    | tuple ds =>
      have hl := binds_length (show binds [.n j, .n k] ds env = some e from hb)
      obtain ⟨a, b, rfl⟩ : ∃ a b, ds = [a, b] := by
        match ds, hl with
        | [a, b], _ => exact ⟨a, b, rfl⟩
      cases (show some ((env.set j (.v a)).set k (.v b)) = some e from hb)
      refine ⟨fun z => ?_, ?_, fun s => ?_⟩
      · have z : i ∈ [j] ++ ([k] ++ []) := z
        simp at z
        rcases z with z | z
        · exact h.1 z.symm
        · exact h.2 z.symm
      · rw [List.getElem?_set_ne h.2, List.getElem?_set_ne h.1]
      · show some (((env.set i s).set j (.v a)).set k (.v b)) = _
        rw [List.set_comm _ _ (Ne.symm h.1), List.set_comm _ _ (Ne.symm h.2)]
    | _ => cases hb
  · cases h
section
variable {K : PySem.W.Frag} {Ox : Addr → Prop} {Hb H H' : Hp} {σ σ' : Sg} {env : En} {i : Nat}
/-- the lists that are owned outside, and the one at i -/
def OxI (Ox : Addr → Prop) (σ : Sg) (env : En) (i : Nat) : Addr → Prop := fun b => Ox b ∨ OwnAt σ env i b
/-- one's own lists but the one at i -/
def OwI (σ : Sg) (env : En) (i : Nat) : Addr → Prop := fun b => ∃ j, OwnAt σ (env.set i .no) j b
theorem owi_ne {j : Nat} {b : Addr} (h : OwnAt σ (env.set i .no) j b) (hi : i < env.length) : j ≠ i ∧ OwnAt σ env j b := by
  obtain ⟨⟨ds, e⟩, e2⟩ := h
  have hj : j ≠ i := fun z => by
    subst z
    rw [List.getElem?_set_self hi] at e; cases e
  rw [List.getElem?_set_ne (Ne.symm hj)] at e
  exact ⟨hj, ⟨ds, e⟩, e2⟩
theorem owi_of {j : Nat} {b : Addr} (hj : j ≠ i) (h : OwnAt σ env j b) : OwnAt σ (env.set i .no) j b := by
  obtain ⟨⟨ds, e⟩, e2⟩ := h
  exact ⟨⟨ds, by rw [List.getElem?_set_ne (Ne.symm hj)]; exact e⟩, e2⟩
theorem oxi_sub (hi : i < env.length) : ∀ a, OxI Ox σ env i a ∨ OwI σ env i a → Of Ox σ env [] a := fun a h => by
  rcases h with (h | h) | ⟨j, h⟩
  · exact .inl h
  · exact .inr ⟨i, by simp, h⟩
  · exact .inr ⟨j, by simp, (owi_ne h hi).2⟩
theorem of_oxi (hi : i < env.length) : ∀ a, Of (OxI Ox σ env i) σ (env.set i .no) [] a → Of Ox σ env [] a := fun a h => by
  rcases h with h | ⟨j, _, h⟩
  · exact oxi_sub hi a (.inl h)
  · exact oxi_sub hi a (.inr ⟨j, h⟩)
/-- the list at i out of sight -/
theorem ER.hide (R : ER K Ox Hb H σ env) (hi : i < env.length) : ER K (OxI Ox σ env i) (notOwn (OwI σ env i) H) H σ (env.set i .no) := by
  refine ⟨by simpa using R.len, notOwn_same, fun a h => R.lst (L := []) a (oxi_sub hi a (.inl h)), fun j d q => ?_, fun j ds q => ?_, fun j k a p q => ?_⟩
  · have hj : j ≠ i := fun z => by
      subst z
      rw [List.getElem?_set_self hi] at q; cases q
    rw [List.getElem?_set_ne (Ne.symm hj)] at q
    obtain ⟨v, e1, e2⟩ := R.val j d q
    exact ⟨v, e1, rep_weak R.lst (of_oxi hi) e2⟩
  · have hj : j ≠ i := fun z => by
      subst z
      rw [List.getElem?_set_self hi] at q; cases q
    have q' := q
    rw [List.getElem?_set_ne (Ne.symm hj)] at q
    obtain ⟨a, vs, e1, e2, e3, e4, e5⟩ := R.own j ds q
    refine ⟨a, vs, e1, notOwn_yes ⟨j, ⟨ds, q'⟩, e1⟩, fun z => ?_, e4, reps_weak R.lst (of_oxi hi) e5⟩
    rcases z with z | z
    · exact e3 z
    · exact hj (R.dis j i a ⟨⟨ds, q⟩, e1⟩ z)
  · exact R.dis j k a (owi_ne p hi).2 (owi_ne q hi).2
/-- .. and back -/
theorem ER.show_ {e : En} (R : ER K Ox Hb H σ env) (hi : i < env.length) (R' : ER K (OxI Ox σ env i) (notOwn (OwI σ env i) H) H' σ' (e.set i .no)) (hs : σ'[i]? = σ[i]?) (he : e[i]? = env[i]?) : ER K Ox Hb H' σ' e := by
  have hie : i < e.length := by
    have h1 := List.getElem?_eq_getElem hi
    rw [← he] at h1
    exact (List.getElem?_eq_some_iff.mp h1).1
  have back : ∀ {b}, OwnAt σ' e i b → OwnAt σ env i b := fun {b} ⟨⟨ds, q⟩, q2⟩ => ⟨⟨ds, by rw [← he]; exact q⟩, by rw [← hs]; exact q2⟩
  have sub : ∀ b, Of Ox σ' e [] b → Of (OxI Ox σ env i) σ' (e.set i .no) [] b := fun b z => by
    rcases z with z | ⟨j, nj, z⟩
    · exact .inl (.inl z)
    · by_cases hj : j = i
      · subst hj; exact .inl (.inr (back z))
      · exact .inr ⟨j, nj, owi_of hj z⟩
  have oo : ∀ b, Of Ox σ' e [] b → OxI Ox σ env i b ∨ notOwn (OwI σ env i) H b = none := fun b z => by
    rcases sub b z with z | ⟨j, nj, ⟨ds, z⟩, z2⟩
    · exact .inl z
    · obtain ⟨a, vs, e1, e2, _⟩ := R'.own j ds z
      rw [e1] at z2; cases z2
      exact .inr e2
  have hbf : Same Hb (notOwn (OwI σ env i) H) := fun b o q => by
    rw [notOwn_no (fun ⟨j, z⟩ => by
      obtain ⟨⟨ds, h1⟩, h2⟩ := (owi_ne z hi).2
      obtain ⟨a, vs, e1, e2, _⟩ := R.own j ds h1
      rw [e1] at h2; cases h2
      rw [q] at e2; cases e2)]
    exact R.ext b o q
  refine ⟨by simpa using R'.len, hbf.trans R'.ext, fun a z => R'.ox a (.inl z), fun j d q => ?_, fun j ds q => ?_, fun j k b p q => ?_⟩
  · by_cases hj : j = i
    · subst hj
      rw [he] at q
      obtain ⟨v, e1, e2⟩ := R.val j d q
      exact ⟨v, by rw [hs]; exact e1, rep_later R.lst (oxi_sub hi) R'.ext e2 _ oo⟩
    · obtain ⟨v, e1, e2⟩ := R'.val j d (by rw [List.getElem?_set_ne (Ne.symm hj)]; exact q)
      exact ⟨v, e1, rep_weak R'.lst sub e2⟩
  · by_cases hj : j = i
    · subst hj
      have q0 := q
      rw [he] at q
      obtain ⟨a, vs, e1, e2, e3, e4, e5⟩ := R.own j ds q
      refine ⟨a, vs, by rw [hs]; exact e1, e2, e3, R'.ext _ _ ?_, reps_later R.lst (oxi_sub hi) R'.ext e5 _ oo⟩
      rw [notOwn_no (fun ⟨k, z⟩ => by
        obtain ⟨hk, z⟩ := owi_ne z hi
        exact hk (R.dis k j a z ⟨⟨ds, q⟩, e1⟩))]
      exact e4
    · obtain ⟨a, vs, e1, e2, e3, e4, e5⟩ := R'.own j ds (by rw [List.getElem?_set_ne (Ne.symm hj)]; exact q)
      exact ⟨a, vs, e1, hbf.free e2, fun z => e3 (.inl z), e4, reps_weak R'.lst sub e5⟩
  · by_cases hj : j = i
    · by_cases hk : k = i
      · rw [hj, hk]
      · exfalso
        subst hj
        obtain ⟨⟨ds, h1⟩, h2⟩ := owi_of hk q
        obtain ⟨a, vs, e1, _, e3, _⟩ := R'.own k ds h1
        rw [e1] at h2; cases h2
        exact e3 (.inr (back p))
    · by_cases hk : k = i
      · exfalso
        subst hk
        obtain ⟨⟨ds, h1⟩, h2⟩ := owi_of hj p
        obtain ⟨a, vs, e1, _, e3, _⟩ := R'.own j ds h1
        rw [e1] at h2; cases h2
        exact e3 (.inr (back q))
      · exact R'.dis j k b (owi_of hj p) (owi_of hk q)
end
section
variable {X : Cx}
theorem s_forO {F : FE} {i : Nat} {x : Str} {elts : List Expr} {kk : Nat} {tpos p p2 px pos pos2 pos3 : Pos} {b : List Stmt} {t : Tg} {ir : List S} (hp : PassesOwn (model X.prog X.w) X.A X.env X.xe) (hc : X.calm = true) (hi : X.N[i]? = some x) (hv : Vis X.env.scope x) (hd : (x == ("__debug__" : Str)) = false) (hcd : (x == ("__classdict__" : Str)) = false)
    (hg : Gl X "enumerate") (hm : X.mg "enumerate" = none) (hg2 : Gl X "reversed") (hm2 : X.mg "reversed" = none) (ht : PG X (.Tuple elts kk tpos) (tG X.K t)) (hpt : pairT i t = true) (hsm : ir.all (smpS i) = true) (hb : PSs X b (tOw X.K i (dnSs F ir))) :
    PS X (.For (.Tuple elts kk tpos) (.Call (.Name "enumerate" p) [.Call (.Name "reversed" p2) [.Name x px] [] pos2] [] pos) b [] pos3) (tS X.K (dnS F (.for_ t .er [.sl (.var i) none none] ir))) :=
  ps_mono (ps_for hp hc (pi_enumR hg hm hg2 hm2 (pe_var hi hv hd hcd) (by rfl)) ht hb (fun _ => rfl)) fun D σ H hl ⟨Ox, Hb, env, q, R, eq0, k⟩ => by
    have hie : i < env.length := by rw [← R.len, hl]; exact ix_lt hi
    obtain ⟨ds0, e1, eq1⟩ := Option.bind_eq_some_iff.mp (show (dnEs F [.sl (.var i) none none] env).bind (fun ds => (srcs .er ds).bind fun its => forL (fun x e => (bind t x e).bind (dnSs F ir)) its (demote env (lkEs [.sl (.var i) none none]))) = some q from eq0)
    obtain ⟨its, e2, eq2⟩ := Option.bind_eq_some_iff.mp eq1
    have eq3 : forL (fun x e => (bind t x e).bind (dnSs F ir)) its env = some q := eq2
    have e1 : ((rdv env i).bind fun x => slice x.d none none).bind (fun y => (some []).map fun xs => y.d :: xs) = some ds0 := e1
    obtain ⟨y, e3, e4⟩ := Option.bind_eq_some_iff.mp e1
    obtain ⟨x0, e5, e6⟩ := Option.bind_eq_some_iff.mp e3
    cases e4
    -- the list itself
    obtain ⟨ds, a, vs, hx, hs, na, ha, hr, hits⟩ : ∃ ds a vs, x0.d = .list ds ∧ σ[i]? = some (some (.ref a)) ∧ ¬ OwI σ env i a ∧ H a = some (.lst vs) ∧ Reps X.K (Of Ox σ env []) H vs ds ∧ its = nums ds.reverse := by
      have key : ∀ ds, x0.d = .list ds → its = nums ds.reverse := fun ds hx => by
        rw [hx] at e6
        have e6 : some (RV.l (cut ds none none)) = some y := e6
        cases e6
        have e2 : erS [.list (cut ds none none)] = some its := e2
        have hcut : cut ds none none = ds := by
          unfold cut
          simp
        rw [hcut] at e2
        exact (Option.some.inj e2).symm
      rcases env_cases e5 with ⟨d, q0, rfl⟩ | ⟨ds, q0, rfl⟩
      · obtain ⟨v, g1, g2⟩ := R.val i d q0
        cases d with
        | list ds =>
          cases g2 with
          | lst n e r => exact ⟨ds, _, _, rfl, g1, fun z => n (oxi_sub hie _ (.inr z)), e, r, key ds rfl⟩
        | tuple ds =>
          exfalso
          have e6 : some (RV.v (.tuple (cut ds none none))) = some y := e6
          cases e6
          cases e2
        | _ => cases e6
      · obtain ⟨a, vs, g1, g2, g3, g4, g5⟩ := R.own i ds q0
        refine ⟨ds, a, vs, rfl, g1, fun ⟨j, z⟩ => ?_, g4, g5, key ds rfl⟩
        obtain ⟨hj, z⟩ := owi_ne z hie
        exact hj (R.dis j i a z ⟨⟨ds, q0⟩, g1⟩)
    have G := good_enumR (Ox := OxI Ox σ env i) (P := OwI σ env i) R.lst (oxi_sub hie) na ha hr
    rw [← hits] at G
    have R0 := R.hide hie
    refine ⟨.ref a, hs, a, vs, rfl, .inl (.inl ha), fun n m σ' H' => m = its.length - n ∧ n ≤ its.length ∧ ∃ e, ER X.K (OxI Ox σ env i) (notOwn (OwI σ env i) H) H' σ' (e.set i .no) ∧ σ'[i]? = σ[i]? ∧ e[i]? = env[i]? ∧ forL (fun x e => (bind t x e).bind (dnSs F ir)) (its.drop n) e = some q,
      ⟨its.length, by simp, Nat.zero_le _, env, R0, rfl, rfl, by rw [List.drop_zero]; exact eq3⟩, ?_⟩
    rintro n m σ2 H2 ⟨rfl, hle, en, R2, hs2, he2, ef⟩
    by_cases hlt : n < its.length
    · have hget : its[n]? = some its[n] := List.getElem?_eq_getElem hlt
      refine .inr ⟨G.go n _ H2 R2.ext hget, fun σ' H' => n + 1 ≤ its.length ∧ ∃ e, ER X.K (OxI Ox σ env i) (notOwn (OwI σ env i) H) H' σ' (e.set i .no) ∧ σ'[i]? = σ[i]? ∧ e[i]? = env[i]? ∧ forL (fun x e => (bind t x e).bind (dnSs F ir)) (its.drop (n + 1)) e = some q,
        fun σ' H' h => ⟨its.length - (n + 1), by omega, rfl, h⟩, fun x1 H3 hy => ?_⟩
      obtain ⟨s3, rep⟩ := G.yld n _ H2 x1 H3 R2.ext hget hy
      rw [List.drop_eq_getElem_cons hlt, forL] at ef
      obtain ⟨q1, e7, e8⟩ := Option.bind_eq_some_iff.mp ef
      obtain ⟨e9, f1, f2⟩ := Option.bind_eq_some_iff.mp e7
      obtain ⟨t1, t2, t3⟩ := bind_pair hpt f1
      obtain ⟨e10, rfl, t4⟩ := smpSs_ok hsm f2
      refine ⟨OxI Ox σ env i, _, en.set i .no, its[n], e9.set i .no, R2.ext' s3, rep _ (fun a z => ?_) R2.lst, t3 .no, fun σ3 w3 _ R3 => ⟨OxI Ox σ env i, _, e9, e10, some (.ref a), ?_, R3, f2, fun σ4 H4 hs4 R4 => ⟨hlt, e10, R4, by rw [hs4, hs], by rw [t4, t2, he2], e8⟩⟩⟩
      · rcases z with z | ⟨j, nj, ⟨ds1, z⟩, z2⟩
        · exact .inl z
        · obtain ⟨b1, us, g1, g2, _⟩ := R2.own j ds1 z
          rw [g1] at z2; cases z2
          exact .inr g2
      · rw [← wipe_get σ3 (tgSlots t) t1, w3 (tgSlots t) fun _ h => h, wipe_get σ2 (tgSlots t) t1, hs2, hs]
    · have hn : n = its.length := by omega
      subst hn
      rw [List.drop_length] at ef
      cases ef
      exact .inl ⟨G.stop _ H2 R2.ext (Nat.le_refl _), k _ _ (R.show_ hie R2 hs2 he2)⟩
end
end Wi

namespace Wi
open PySem PySem.Spec PyProof.Rows L2
def augOp : Operator → Option O2
  | .Add => some .add
  | .Sub => some .sub
  | .Mult => some .mul
  | .FloorDiv => some .fdiv
  | .Mod => some .mod
  | _ => none
theorem augOp_ok {X : Cx} {op : Operator} {o : O2} (h : augOp op = some o) : OpR X (inplaceOp op) (rIq fun i j => o2 o (.int i) (.int j)) := by
  cases op <;> first | (cases h; done) | skip
  · cases h; exact ii_add
  · cases h; exact ii_sub
  · cases h; exact ii_mul
  · cases h; exact ii_mod
  · cases h; exact ii_fdiv
def notTup : Expr → Bool
  | .Tuple .. => false
  | _ => true
/-- a whole number, written -/
def isI : Expr → Bool
  | .Constant (.int _) _ _ => true
  | _ => false
theorem sst0 {env : PySem.Env} {x y : Str} {px py pt pt2 : Pos} {k k2 : Nat} {a b : Expr} (ha : isI a = true) (hb : isI b = true) : swappedStores [.Tuple [.Name x px, .Name y py] k pt] (.Tuple [a, b] k2 pt2) env = pure none := by
  have h1 : ([a, b] : List Expr).all (foldedForSure 8) = true := by
    unfold isI at ha hb
    split at ha
    · split at hb
      · rfl
      · cases hb
    · cases ha
  unfold swappedStores
  dsimp only
  split
  · rfl
  · split
    · rfl
    · split
      · rfl
      · first | rfl | (rw [h1]; rfl)
def notVar : E → Bool
  | .var _ => false
  | _ => true
def C.loc (c : C) (x : Str) : Option Nat := if c.own.contains x = true then c.slot x else none
def isLC : Expr → Bool
  | .ListComp .. => true
  | _ => false
/-- a zip that a name holds, walked in the next statement -/
def cZ (n : Nat) (c : C) : Stmt → Stmt → Option S
  | .Assign [.Name pn _] (.Call (.Name z _) [a, b] [] _) _, .Expr (.Call (.Attribute (.Name x _) m p2) [.Call (.Name mn _) [.ListComp elt [⟨.Tuple es kk tp, .Name pn' _, [], 0⟩] scope _] [] _] [] cpos) _ =>
    if (z = ("zip" : Str) ∧ m = ("append" : Str) ∧ mn = ("min" : Str) ∧ pn' = pn) ∧ c.bi ("zip" : Str) = true ∧ c.bi ("min" : Str) = true ∧ (p2.endLine == cpos.line) = true ∧ blkC c.N c.sc scope (blkOwn c scope) = true then
      (c.loc pn).bind fun p => (c.slot x).bind fun i => (cT (c.blk scope) (.Tuple es kk tp)).bind fun t => (cE n c a).bind fun y1 => (cE n c b).bind fun y2 => (cE n (c.blk scope) elt).bind fun ye =>
        if lkCs [y1, y2] = [] ∧ ((tgSlots t).all fun i => ((blkOwn c scope).map (·.2)).contains i) = true then some (.zap p i ye t [y1, y2] ((blkOwn c scope).map (·.2))) else none
    else none
  | _, _ => none
def cB (z : Stmt → Stmt → Option S) (f : Stmt → Option S) : List Stmt → Option (List S)
  | [] => some []
  | [s] => (f s).map fun x => [x]
  | s :: s' :: r => match z s s' with
    | some ir => (cB z f r).map (ir :: ·)
    | none => (f s).bind fun x => (cB z f (s' :: r)).map (x :: ·)
/-- the body of a loop over one's own list turned round -/
def cOw (n : Nat) (c : C) (i : Nat) : List Stmt → Option (List S)
  | [] => some []
  | .Assign [.Name x _] e _ :: r => if notComp e = true then (c.loc x).bind fun j => (cE n c e).bind fun y => if smpS i (.asg j y) = true then (cOw n c i r).map (.asg j y :: ·) else none else none
  | .AugAssign (.Name x _) op e _ :: r => (augOp op).bind fun o => (c.loc x).bind fun j => (cE n c e).bind fun y => if smpS i (.aug j o y) = true then (cOw n c i r).map (.aug j o y :: ·) else none
  | _ => none
def cFo (n : Nat) (c : C) : Stmt → Option S
  | .For (.Tuple es kk tp) (.Call (.Name y _) [.Call (.Name z _) [.Name xn _] [] _] [] _) a [] _ =>
    if (y = ("enumerate" : Str) ∧ z = ("reversed" : Str)) ∧ c.bi ("enumerate" : Str) = true ∧ c.bi ("reversed" : Str) = true then
      (c.slot xn).bind fun i => (cT c (.Tuple es kk tp)).bind fun t => (cOw n c i a).bind fun x => if pairT i t = true ∧ x.all (smpS i) = true then some (.for_ t .er [.sl (.var i) none none] x) else none
    else none
  | _ => none
def cWo (n : Nat) (c : C) (f : Stmt → Option S) (s : Stmt) : Option S := match cFo n c s with
  | some ir => some ir
  | none => f s
def cS : Nat → C → Stmt → Option S
  | 0, _, _ => none
  | n + 1, c, st => match st with
    | .Assign [.Name x p] e _ => if (notComp e || isLC e) = true then (c.loc x).bind fun i => (cE n c e).map fun y => .asg i y else none
    | .Assign [.Tuple [.Name x px, .Name y py] _ _] (.Tuple [a, b] k2 p2) _ =>
      if parB c.sc px.line [(x, px), (y, py)] [a, b] = true then (c.slot x).bind fun i => (c.slot y).bind fun j => (cL (cE n c) [a, b]).map fun es => .par [i, j] es
      else if (isI a && isI b) = true then (cTs c [.Name x px, .Name y py]).bind fun ts => (cE n c (.Tuple [a, b] k2 p2)).map fun y => .unp ts y else none
    | .Assign [.Tuple [.Name x px, .Name y py, .Name z pz] _ _] (.Tuple [a, b, d] _ _) _ =>
      if parB c.sc px.line [(x, px), (y, py), (z, pz)] [a, b, d] = true then (c.slot x).bind fun i => (c.slot y).bind fun j => (c.slot z).bind fun k => (cL (cE n c) [a, b, d]).map fun es => .par [i, j, k] es else none
    | .Assign [.Tuple es _ _] e _ => if notTup e = true then (cTs c es).bind fun ts => (cE n c e).map fun y => .unp ts y else none
    | .Assign [.Subscript (.Name x _) j _] e _ => (c.slot x).bind fun i => (cE n c j).bind fun k => (cE n c e).map fun y => .seti i k y
    | .AugAssign (.Name x _) op e _ => (augOp op).bind fun o => (c.loc x).bind fun i => (cE n c e).map fun y => .aug i o y
    | .Expr (.Constant (.str _) _ _) _ => some .pas
    | .Raise .. => some .nev
    | .Expr (.Call (.Attribute a m p2) [] [] cpos) _ => (cE n c (.Call (.Attribute a m p2) [] [] cpos)).map .ex
    | .Expr (.Call (.Attribute (.Name x _) m p2) [e] [] cpos) _ =>
      if (p2.endLine == cpos.line) = true then
        if m = ("append" : Str) then (c.slot x).bind fun i => (cE n c e).map fun y => .app i y
        else if m = ("extend" : Str) then (c.slot x).bind fun i => (cE n c e).map fun y => .ext i y
        else none
      else none
    | .Return none _ => some (.ret (.lit .none))
    | .Return (some (.Name x _)) _ => (c.slot x).map fun i => .ret (.var i)
    | .Return (some e) _ => (cE n c e).bind fun y => if notVar y = true then some (.ret y) else none
    | .If t a b _ => (cE n c t).bind fun z => (cB (cZ n c) (cWo n c (cS n c)) a).bind fun x => (cB (cZ n c) (cWo n c (cS n c)) b).map fun y => .ite z x y
    | .While t a [] _ => (cE n c t).bind fun z => (cB (cZ n c) (cWo n c (cS n c)) a).map fun x => .whl z x
    | .For tg it a [] _ => if notSet it = true then (cT c tg).bind fun t => (cI (cE n c) c tg it).bind fun s => (cB (cZ n c) (cWo n c (cS n c)) a).map fun x => .for_ t s.1 s.2 x else none
    | .Break _ => some .brk
    | .Continue _ => some .cnt
    | .Pass _ => some .pas
    | _ => none
section
variable {X : Cx} {F : FE} {c : C}
theorem XOk.locv (o : XOk c X F) {x : Str} {i : Nat} (h : c.loc x = some i) : X.N[i]? = some x ∧ Loc X.env.scope x ∧ (X.fn x = true ∨ X.env.scope.names.lookup x = some .local) := by
  unfold C.loc at h
  split at h
  · rename_i q
    obtain ⟨h1, h2, h3, h4⟩ := o.slotv h
    obtain ⟨l1, l2⟩ := o.own x (by simpa using q)
    exact ⟨h1, l1, l2⟩
  · cases h
theorem ps_congr {st : Stmt} {f g : En → Option Res} (h : PS X st (tS X.K f)) (q : ∀ env, g env = f env) : PS X st (tS X.K g) := by
  have : g = f := funext q
  rw [this]; exact h
theorem comp_asg {n : Nat} {elt tg iter : Expr} {ifs : List Expr} {scope : Scope} {pos p pos2 : Pos} {ir : E} {x : Str} {i : Nat} (o : XOk c X F) (h : cE (n + 1) c (.ListComp elt [⟨tg, iter, ifs, 0⟩] scope pos) = some ir) (hx : c.loc x = some i)
    (hl : X.env.scope.names.lookup x = some .local) (hsw : swapsWith (.ListComp elt [⟨tg, iter, ifs, 0⟩] scope pos) (some (.Name x p)) pos2.line X.env = pure true) : PS X (.Assign [.Name x p] (.ListComp elt [⟨tg, iter, ifs, 0⟩] scope pos) pos2) (tS X.K (dnS F (.asg i ir))) := by
  have ih := fun e ir h => cE_ok n c e ir h X F o
  obtain ⟨hi1, hi2, hi3⟩ := o.locv hx
  change (if blkC c.N c.sc scope (blkOwn c scope) = true then _ else none) = some ir at h
  split at h
  · rename_i hb
    obtain ⟨t, e1, h⟩ := Option.bind_eq_some_iff.mp h
    obtain ⟨s, e2, h⟩ := Option.bind_eq_some_iff.mp h
    obtain ⟨y, e3, h⟩ := Option.bind_eq_some_iff.mp h
    split at h
    · rename_i hv
      rw [Bool.and_eq_true, List.all_eq_true] at hv
      obtain ⟨hv1, hv2⟩ := hv
      have ok : BlkOk X.N X.env.scope scope (blkOwn c scope) := by rw [o.N, o.sc]; exact blkOk_by hb
      have hs : ∀ x, foldedSetIterable iter X.env x = pure x := fun x => by cases iter <;> first | rfl | cases hv2
      have hi := cI_ok ih o false (tg := tg) iter e2
      have hvv : ∀ i ∈ tgSlots t, i ∈ (blkOwn c scope).map (·.2) := fun i hi => by simpa using hv1 i hi
      have hg := fun s H C0 cl fp => (cT_ok (xok_blk o ok s H C0 cl fp) e1).1
      have he := fun s H C0 cl fp => (cE_ok n _ elt y e3 _ F (xok_blk o ok s H C0 cl fp)).v
      have hN : X.N.Nodup := by rw [o.N]; exact o.nd
      rcases ifs with _ | ⟨d0, _ | ⟨d1, r1⟩⟩
      · cases h
        refine ps_congr (s_asgC o.calm hN hi1 hl hsw hi ok hg (fun s H C0 cl fp => t_yes (env0 := [])) he hs hvv) fun env => ?_
        show (((dnEs F s.2 env).bind _).map _) = ((((dnEs F s.2 env).bind (srcs s.1)).bind _).map _)
        rw [Option.bind_assoc]
        rfl
      · dsimp only at h
        obtain ⟨z, e4, rfl⟩ := Option.map_eq_some_iff.mp h
        have ht := fun s H C0 cl fp => t_one (cE_ok n _ d0 z e4 _ F (xok_blk o ok s H C0 cl fp)).t
        refine ps_congr (s_asgC o.calm hN hi1 hl hsw hi ok hg ht he hs hvv) fun env => ?_
        show (((dnEs F s.2 env).bind _).map _) = ((((dnEs F s.2 env).bind (srcs s.1)).bind _).map _)
        rw [Option.bind_assoc]
        rfl
      · cases h
    · cases h
  · cases h
theorem comp2_asg {n : Nat} {elt tg iter tg1 e1' : Expr} {r : Str} {rp rpos : Pos} {scope : Scope} {pos p pos2 : Pos} {ir : E} {x : Str} {i : Nat} (o : XOk c X F) (h : cE (n + 1) c (.ListComp elt [⟨tg, iter, [], 0⟩, ⟨tg1, .Call (.Name r rp) [e1'] [] rpos, [], 0⟩] scope pos) = some ir) (hx : c.loc x = some i)
    (hl : X.env.scope.names.lookup x = some .local) (hsw : swapsWith (.ListComp elt [⟨tg, iter, [], 0⟩, ⟨tg1, .Call (.Name r rp) [e1'] [] rpos, [], 0⟩] scope pos) (some (.Name x p)) pos2.line X.env = pure true) : PS X (.Assign [.Name x p] (.ListComp elt [⟨tg, iter, [], 0⟩, ⟨tg1, .Call (.Name r rp) [e1'] [] rpos, [], 0⟩] scope pos) pos2) (tS X.K (dnS F (.asg i ir))) := by
  have ih := fun e ir h => cE_ok n c e ir h X F o
  obtain ⟨hi1, hi2, hi3⟩ := o.locv hx
  change (if (blkC c.N c.sc scope (blkOwn c scope) && (r == ("range" : Str) && (c.blk scope).bi r)) = true then _ else none) = some ir at h
  split at h
  case isFalse => cases h
  rename_i hb
  rw [Bool.and_eq_true, Bool.and_eq_true, beq_iff_eq] at hb
  obtain ⟨hb, rfl, hbr⟩ := hb
  obtain ⟨t, a1, h⟩ := Option.bind_eq_some_iff.mp h
  obtain ⟨s, a2, h⟩ := Option.bind_eq_some_iff.mp h
  obtain ⟨t1, a3, h⟩ := Option.bind_eq_some_iff.mp h
  obtain ⟨z, a4, h⟩ := Option.bind_eq_some_iff.mp h
  obtain ⟨y, a5, h⟩ := Option.bind_eq_some_iff.mp h
  split at h
  case isFalse => cases h
  rename_i hv
  cases h
  rw [Bool.and_eq_true, Bool.and_eq_true, List.all_eq_true, List.all_eq_true] at hv
  obtain ⟨⟨hv1, hv3⟩, hv2⟩ := hv
  have ok : BlkOk X.N X.env.scope scope (blkOwn c scope) := by rw [o.N, o.sc]; exact blkOk_by hb
  have hs : ∀ x, foldedSetIterable iter X.env x = pure x := fun x => by cases iter <;> first | rfl | cases hv2
  have hi := cI_ok ih o false (tg := tg) iter a2
  have hvv : ∀ i ∈ tgSlots t, i ∈ (blkOwn c scope).map (·.2) := fun i hi => by simpa using hv1 i hi
  have hvw : ∀ i ∈ tgSlots t1, i ∈ (blkOwn c scope).map (·.2) := fun i hi => by simpa using hv3 i hi
  have hg := fun s H C0 cl fp => (cT_ok (xok_blk o ok s H C0 cl fp) a1).1
  have hg1 := fun s H C0 cl fp => (cT_ok (xok_blk o ok s H C0 cl fp) a3).1
  have he := fun s H C0 cl fp => (cE_ok n _ elt y a5 _ F (xok_blk o ok s H C0 cl fp)).v
  have hR := fun s H C0 cl fp => by
    have ob := xok_blk o ok s H C0 cl fp
    obtain ⟨g1, _, _, g4⟩ := ob.biv hbr
    have q := cE_ok n _ e1' z a4 _ F ob
    exact i_rngR (tg := tg1) (p := rp) (pos := rpos) g1 g4 q.c q.st
  have hN : X.N.Nodup := by rw [o.N]; exact o.nd
  refine ps_congr (s_asgC2 o.calm hN hi1 hl hsw hi ok hvw hg hR hg1 he hs (fun _ _ => rfl) hvv (fun _ h => h)) fun env => ?_
  show (((dnEs F s.2 env).bind _).map _) = ((((dnEs F s.2 env).bind (srcs s.1)).bind _).map _)
  rw [Option.bind_assoc]
  rfl
theorem XOk.locv2 (o : XOk c X F) {x : Str} {i : Nat} (h : c.loc x = some i) : X.N[i]? = some x ∧ Vis X.env.scope x ∧ (x == ("__debug__" : Str)) = false ∧ (x == ("__classdict__" : Str)) = false := by
  unfold C.loc at h
  split at h
  · exact o.slotv h
  · cases h
theorem cZ_ok {n : Nat} (o : XOk c X F) {s s' : Stmt} {ir : S} (h : cZ n c s s' = some ir) {sts : List Stmt} {g : En → Option Res} (hr : PSs X sts (tS X.K g)) : PSs X (s :: s' :: sts) (tS X.K fun env => (dnS F ir env).bind fun q => match q with
    | .nx e => g e
    | o => some o) := by
  unfold cZ at h
  split at h
  · split at h
    · rename_i hc
      obtain ⟨⟨rfl, rfl, rfl, rfl⟩, hz, hm, hln, hb⟩ := hc
      obtain ⟨p, e1, h⟩ := Option.bind_eq_some_iff.mp h
      obtain ⟨i, e2, h⟩ := Option.bind_eq_some_iff.mp h
      obtain ⟨t, e3, h⟩ := Option.bind_eq_some_iff.mp h
      obtain ⟨y1, e4, h⟩ := Option.bind_eq_some_iff.mp h
      obtain ⟨y2, e5, h⟩ := Option.bind_eq_some_iff.mp h
      obtain ⟨ye, e6, h⟩ := Option.bind_eq_some_iff.mp h
      split at h
      · rename_i hv
        cases h
        obtain ⟨hl, hv⟩ := hv
        rw [List.all_eq_true] at hv
        have hN : X.N.Nodup := by rw [o.N]; exact o.nd
        have ok := blkOk_by hb
        rw [← o.N, ← o.sc] at ok
        obtain ⟨p1, p2, p3⟩ := o.locv e1
        obtain ⟨_, q2, q3, q4⟩ := o.locv2 e1
        obtain ⟨i1, i2, i3, i4⟩ := o.slotv e2
        obtain ⟨z1, z2, z3, z4⟩ := o.biv hz
        obtain ⟨m1, m2, m3, m4⟩ := o.biv hm
        have k1 := cE_ok n c _ y1 e4 X F o
        have k2 := cE_ok n c _ y2 e5 X F o
        have ha : PA X [_, _] (tAC X.K (dnEs F [y1, y2]) (lkCs [y1, y2])) := (OKL.cons k1 (OKL.cons k2 OKL.nil)).ac
        rw [hl] at ha
        have hg := fun s H C0 cl fp => (cT_ok (xok_blk o ok s H C0 cl fp) e3).1
        have he := fun s H C0 cl fp => (cE_ok n _ _ ye e6 _ F (xok_blk o ok s H C0 cl fp)).v
        exact s_zap o.calm o.hu hN p1 p2 p3 q2 q3 q4 i1 i2 i3 i4 z1 z4 m1 m4 ha k1.st k2.st ok hg he (fun j hj => by simpa using hv j hj) hln hr
      · cases h
    · cases h
  · cases h
theorem cB_ok {n : Nat} (o : XOk c X F) {f : Stmt → Option S} (ih : ∀ s ir, f s = some ir → PS X s (tS X.K (dnS F ir))) : ∀ {ss : List Stmt} {irs : List S}, cB (cZ n c) f ss = some irs → PSs X ss (tS X.K (dnSs F irs))
  | [], _, h => by cases h; exact ss_nil
  | [s], irs, h => by
    obtain ⟨x, e1, rfl⟩ := Option.map_eq_some_iff.mp (show (f s).map (fun x => [x]) = some irs from h)
    exact ss_cons (ih s x e1) ss_nil
  | s :: s' :: r, irs, h => by
    have h : (match cZ n c s s' with
      | some ir => (cB (cZ n c) f r).map (ir :: ·)
      | none => (f s).bind fun x => (cB (cZ n c) f (s' :: r)).map (x :: ·)) = some irs := h
    split at h
    · rename_i ir e0
      obtain ⟨xs, e3, rfl⟩ := Option.map_eq_some_iff.mp h
      exact cZ_ok o e0 (cB_ok o ih e3)
    · obtain ⟨x, e1, e2⟩ := Option.bind_eq_some_iff.mp h
      obtain ⟨xs, e3, rfl⟩ := Option.map_eq_some_iff.mp e2
      exact ss_cons (ih s x e1) (cB_ok o ih e3)
theorem cOw_ok {n : Nat} (o : XOk c X F) {i : Nat} : ∀ {ss : List Stmt} {irs : List S}, cOw n c i ss = some irs → PSs X ss (tOw X.K i (dnSs F irs))
  | [], _, h => by cases h; exact ow_nil
  | s :: ss, irs, h => by
    have hN : X.N.Nodup := by rw [o.N]; exact o.nd
    unfold cOw at h
    split at h
    · rename_i heq; cases heq
    · rename_i x p e pos r heq
      cases heq
      split at h
      · rename_i hc
        obtain ⟨j, e1, h⟩ := Option.bind_eq_some_iff.mp h
        obtain ⟨y, e2, h⟩ := Option.bind_eq_some_iff.mp h
        split at h
        · rename_i hs
          obtain ⟨xs, e3, rfl⟩ := Option.map_eq_some_iff.mp h
          obtain ⟨h1, h2, h3⟩ := o.locv e1
          exact ow_cons hs (ow_asg hN h1 h2 h3 (cE_ok n c _ _ e2 X F o).v (swaps_no hc) hs) (cOw_ok o e3)
        · cases h
      · cases h
    · rename_i x p op e pos r heq
      cases heq
      obtain ⟨op2, e0, h⟩ := Option.bind_eq_some_iff.mp h
      obtain ⟨j, e1, h⟩ := Option.bind_eq_some_iff.mp h
      obtain ⟨y, e2, h⟩ := Option.bind_eq_some_iff.mp h
      split at h
      · rename_i hs
        obtain ⟨xs, e3, rfl⟩ := Option.map_eq_some_iff.mp h
        obtain ⟨h1, h2, h3⟩ := o.locv e1
        exact ow_cons hs (ow_aug hN h1 h2 h3 (cE_ok n c _ _ e2 X F o).c (augOp_ok e0) hs) (cOw_ok o e3)
      · cases h
    · cases h
theorem cFo_ok {n : Nat} (o : XOk c X F) {s : Stmt} {ir : S} (h : cFo n c s = some ir) : PS X s (tS X.K (dnS F ir)) := by
  have hp : PassesOwn (model X.prog X.w) X.A X.env X.xe := by rw [o.xe]; exact PassesOwn.never
  unfold cFo at h
  split at h
  · split at h
    · rename_i hc
      obtain ⟨⟨rfl, rfl⟩, hy, hz⟩ := hc
      obtain ⟨i, e1, h⟩ := Option.bind_eq_some_iff.mp h
      obtain ⟨t, e2, h⟩ := Option.bind_eq_some_iff.mp h
      obtain ⟨x, e3, h⟩ := Option.bind_eq_some_iff.mp h
      split at h
      · rename_i hs
        cases h
        obtain ⟨i1, i2, i3, i4⟩ := o.slotv e1
        obtain ⟨h1, h2, h3, h4⟩ := o.biv hy
        obtain ⟨g1, g2, g3, g4⟩ := o.biv hz
        exact s_forO hp o.calm i1 i2 i3 i4 h1 h4 g1 g4 (cT_ok o e2).1 hs.1 hs.2 (cOw_ok o e3)
      · cases h
    · cases h
  · cases h
theorem cWo_ok {n : Nat} (o : XOk c X F) {f : Stmt → Option S} (ih : ∀ s ir, f s = some ir → PS X s (tS X.K (dnS F ir))) : ∀ s ir, cWo n c f s = some ir → PS X s (tS X.K (dnS F ir)) := fun s ir h => by
  unfold cWo at h
  split at h
  · rename_i ir2 e
    cases h
    exact cFo_ok o e
  · exact ih s ir h
theorem cS_ok : ∀ (n : Nat) (c : C) (st : Stmt) (ir : S), cS n c st = some ir → ∀ (X : Cx) (F : FE), XOk c X F → PS X st (tS X.K (dnS F ir))
  | 0, _, _, _, h, _, _, _ => by cases h
  | n + 1, c, st, ir, h, X, F, o => by
    have ih := fun e ir h => cE_ok n c e ir h X F o
    have ihS := cWo_ok (n := n) o fun e ir h => cS_ok n c e ir h X F o
    have hN : X.N.Nodup := by rw [o.N]; exact o.nd
    have hp : PassesOwn (model X.prog X.w) X.A X.env X.xe := by rw [o.xe]; exact PassesOwn.never
    unfold cS at h
    split at h
    · -- name = e
      rename_i x p e pos
      split at h
      · rename_i hc
        obtain ⟨i, e1, h⟩ := Option.bind_eq_some_iff.mp h
        obtain ⟨y, e2, rfl⟩ := Option.map_eq_some_iff.mp h
        obtain ⟨h1, h2, h3⟩ := o.locv e1
        rw [Bool.or_eq_true] at hc
        rcases hc with hc | hc
        · exact s_asg hN h1 h2 h3 (ih _ _ e2).v (swaps_no hc)
        · cases e with
          | ListComp elt gs s p2 =>
            have hs := sw_eq (elt := elt) (gs := gs) (s := s) (p := p) (p2 := p2) (x := x) (l := pos.line) o
            cases hb : swB c.sc x p s p2 with
            | false => rw [hb] at hs; exact s_asg hN h1 h2 h3 (ih _ _ e2).v hs
            | true =>
              rw [hb] at hs
              have hl : X.env.scope.names.lookup x = some .local := by
                unfold swB at hb
                rw [Bool.and_eq_true, Bool.and_eq_true, beq_iff_eq] at hb
                rw [o.sc]; exact hb.1.1
              cases n with
              | zero => cases e2
              | succ n =>
                have key := e2
                unfold cE at e2
                generalize hee : Expr.ListComp elt gs s p2 = ee at e2
                split at e2 <;> first | (cases hee; done) | skip
                · cases hee
                  exact comp_asg o key e1 hl hs
                · cases hee
                  exact comp2_asg o key e1 hl hs
                · cases e2
          | _ => cases hc
      · cases h
    · split at h
      · rename_i hb
        obtain ⟨i, e1, h⟩ := Option.bind_eq_some_iff.mp h
        obtain ⟨j, e2, h⟩ := Option.bind_eq_some_iff.mp h
        obtain ⟨es, e3, rfl⟩ := Option.map_eq_some_iff.mp h
        obtain ⟨q1, q2, q3⟩ := (sst2 (pt := ⟨0, 0, 0, 0⟩) (pt2 := ⟨0, 0, 0, 0⟩) (k := 0) (k2 := 0) o hb).1
        have v1 := (o.slotv e1).1
        have v2 := (o.slotv e2).1
        have hij : i ≠ j := fun z => by
          subst z; rw [v1] at v2; exact q3 (Option.some.inj v2)
        exact s_par2 o.calm hN v1 v2 hij q1 q2 (cL_ok ih e3).a (sst2 o hb).2
      · split at h
        · rename_i hi
          rw [Bool.and_eq_true] at hi
          obtain ⟨ts, e1, h⟩ := Option.bind_eq_some_iff.mp h
          obtain ⟨y, e2, rfl⟩ := Option.map_eq_some_iff.mp h
          exact s_unp o.calm (ih _ _ e2).c (cT_ok o (e := .Tuple [_, _] _ _) (t := .t ts) (show (cTs c _).map Tg.t = _ by rw [e1]; rfl)).1 rfl (sst0 hi.1 hi.2)
        · cases h
    · split at h
      · rename_i hb
        obtain ⟨i, e1, h⟩ := Option.bind_eq_some_iff.mp h
        obtain ⟨j, e2, h⟩ := Option.bind_eq_some_iff.mp h
        obtain ⟨k, e2b, h⟩ := Option.bind_eq_some_iff.mp h
        obtain ⟨es, e3, rfl⟩ := Option.map_eq_some_iff.mp h
        obtain ⟨q1, q2, q3, n1, n2, n3⟩ := (sst3 (pt := ⟨0, 0, 0, 0⟩) (pt2 := ⟨0, 0, 0, 0⟩) (k := 0) (k2 := 0) o hb).1
        have v1 := (o.slotv e1).1
        have v2 := (o.slotv e2).1
        have v3 := (o.slotv e2b).1
        have hij : i ≠ j := fun z => by
          subst z; rw [v1] at v2; exact n1 (Option.some.inj v2)
        have hik : i ≠ k := fun z => by
          subst z; rw [v1] at v3; exact n2 (Option.some.inj v3)
        have hjk : j ≠ k := fun z => by
          subst z; rw [v2] at v3; exact n3 (Option.some.inj v3)
        exact s_par3 o.calm hN v1 v2 v3 hij hik hjk q1 q2 q3 (cL_ok ih e3).a (sst3 o hb).2
      · cases h
    · -- unpacking
      rename_i es k0 p e pos _ _
      split at h
      · rename_i hb
        obtain ⟨ts, e1, h⟩ := Option.bind_eq_some_iff.mp h
        obtain ⟨y, e2, rfl⟩ := Option.map_eq_some_iff.mp h
        have ht := (cT_ok o (e := .Tuple es k0 p) (t := .t ts) (show (cTs c es).map Tg.t = _ by rw [e1]; rfl)).1
        refine s_unp o.calm (ih _ _ e2).c ht ?_ ?_
        · cases e <;> rfl
        · cases e <;> first | rfl | cases hb
      · cases h
    · -- x[j] = e
      rename_i x p1 j p2 e pos
      obtain ⟨i, e1, h⟩ := Option.bind_eq_some_iff.mp h
      obtain ⟨k, e2, h⟩ := Option.bind_eq_some_iff.mp h
      obtain ⟨y, e3, rfl⟩ := Option.map_eq_some_iff.mp h
      obtain ⟨h1, h2, h3, h4⟩ := o.slotv e1
      refine s_seti h1 h2 h3 h4 (ih _ _ e3).v (ih _ _ e2).c (ih _ _ e2).sl ?_
      cases e <;> rfl
    · obtain ⟨op, e0, h⟩ := Option.bind_eq_some_iff.mp h
      obtain ⟨i, e1, h⟩ := Option.bind_eq_some_iff.mp h
      obtain ⟨y, e2, rfl⟩ := Option.map_eq_some_iff.mp h
      obtain ⟨h1, h2, h3⟩ := o.locv e1
      exact s_aug hN h1 h2 h3 (ih _ _ e2).c (augOp_ok e0)
    · cases h; exact s_doc
    · cases h; exact ps_mono ps_never fun D σ H hl ⟨Ox, Hb, env, q, R, e, k⟩ => by cases e
    · obtain ⟨y, e1, rfl⟩ := Option.map_eq_some_iff.mp h
      exact s_ex (ih _ _ e1).v rfl
    · -- methods
      split at h
      · rename_i hln
        split at h
        · rename_i hm
          subst hm
          obtain ⟨i, e1, h⟩ := Option.bind_eq_some_iff.mp h
          obtain ⟨y, e2, rfl⟩ := Option.map_eq_some_iff.mp h
          obtain ⟨h1, h2, h3, h4⟩ := o.slotv e1
          exact s_app h1 h2 h3 h4 (ih _ _ e2).v (ih _ _ e2).st hln
        · split at h
          · rename_i hm
            subst hm
            obtain ⟨i, e1, h⟩ := Option.bind_eq_some_iff.mp h
            obtain ⟨y, e2, rfl⟩ := Option.map_eq_some_iff.mp h
            obtain ⟨h1, h2, h3, h4⟩ := o.slotv e1
            exact s_ext h1 h2 h3 h4 (ih _ _ e2).c (ih _ _ e2).st hln
          · cases h
      · cases h
    · cases h; exact s_retN
    · obtain ⟨i, e1, rfl⟩ := Option.map_eq_some_iff.mp h
      obtain ⟨h1, h2, h3, h4⟩ := o.slotv e1
      exact s_retv h1 h2 h3 h4
    · obtain ⟨y, e1, h⟩ := Option.bind_eq_some_iff.mp h
      split at h
      · rename_i hv
        cases h
        refine ps_congr (s_ret (ih _ _ e1).v) fun env => ?_
        cases y <;> first | rfl | cases hv
      · cases h
    · obtain ⟨z, e1, h⟩ := Option.bind_eq_some_iff.mp h
      obtain ⟨x, e2, h⟩ := Option.bind_eq_some_iff.mp h
      obtain ⟨y, e3, rfl⟩ := Option.map_eq_some_iff.mp h
      exact s_ite (ih _ _ e1).t (cB_ok o ihS e2) (cB_ok o ihS e3)
    · obtain ⟨z, e1, h⟩ := Option.bind_eq_some_iff.mp h
      obtain ⟨x, e2, rfl⟩ := Option.map_eq_some_iff.mp h
      exact s_whl hp (ih _ _ e1).t (cB_ok o ihS e2)
    · split at h
      · rename_i hb
        obtain ⟨t, e1, h⟩ := Option.bind_eq_some_iff.mp h
        obtain ⟨s, e2, h⟩ := Option.bind_eq_some_iff.mp h
        obtain ⟨x, e3, rfl⟩ := Option.map_eq_some_iff.mp h
        rename_i it _ _ _ _
        have hs : ∀ x, foldedSetIterable it X.env x = pure x := fun x => by cases it <;> first | rfl | cases hb
        refine ps_congr (s_for hp o.calm (cI_ok ih o true _ e2) (cT_ok o e1).1 (cB_ok o ihS e3) hs) fun env => ?_
        show ((dnEs F s.2 env).bind _) = (((dnEs F s.2 env).bind (srcs s.1)).bind _)
        rw [Option.bind_assoc]
        rfl
      · cases h
    · cases h; exact s_brk
    · cases h; exact s_cnt
    · cases h; exact s_pas
    · cases h
end
end Wi

namespace Wi
open PySem PySem.Spec PyProof.Rows L2
def beqF : D → D → Bool
  | .none, .none => true
  | .bool a, .bool b => a == b
  | .int a, .int b => a == b
  | .str a, .str b => decide (a = b)
  | _, _ => false
theorem beqF_ok {a b : D} (h : beqF a b = true) : a = b := by
  unfold beqF at h
  split at h
  · rfl
  · rw [beq_iff_eq] at h; rw [h]
  · rw [beq_iff_eq] at h; rw [h]
  · rw [of_decide_eq_true h]
  · cases h
def beqFs : List D → List D → Bool
  | [], [] => true
  | a :: r, b :: s => beqF a b && beqFs r s
  | _, _ => false
theorem beqFs_ok : ∀ {a b : List D}, beqFs a b = true → a = b
  | [], [], _ => rfl
  | a :: r, b :: s, h => by
    have h : (beqF a b && beqFs r s) = true := h
    rw [Bool.and_eq_true] at h
    rw [beqF_ok h.1, beqFs_ok h.2]
  | [], _ :: _, h => by cases h
  | _ :: _, [], h => by cases h
def beqD : D → D → Bool
  | .tuple a, .tuple b => beqFs a b
  | a, b => beqF a b
theorem beqD_ok {a b : D} (h : beqD a b = true) : a = b := by
  unfold beqD at h
  split at h
  · rw [beqFs_ok h]
  · exact beqF_ok h
mutual
def beqT : Tg → Tg → Bool
  | .n i, .n j => i == j
  | .t a, .t b => beqTs a b
  | _, _ => false
def beqTs : List Tg → List Tg → Bool
  | [], [] => true
  | a :: r, b :: s => beqT a b && beqTs r s
  | _, _ => false
end
mutual
theorem beqT_ok : ∀ {a b : Tg}, beqT a b = true → a = b
  | .n i, .n j, h => by rw [show i = j by simpa [beqT] using h]
  | .t a, .t b, h => by rw [beqTs_ok (a := a) (b := b) h]
  | .n _, .t _, h => by cases h
  | .t _, .n _, h => by cases h
theorem beqTs_ok : ∀ {a b : List Tg}, beqTs a b = true → a = b
  | [], [], _ => rfl
  | a :: r, b :: s, h => by
    have h : (beqT a b && beqTs r s) = true := h
    rw [Bool.and_eq_true] at h
    rw [beqT_ok h.1, beqTs_ok h.2]
  | [], _ :: _, h => by cases h
  | _ :: _, [], h => by cases h
end
mutual
def beqE : E → E → Bool
  | .var i, .var j => i == j
  | .lit a, .lit b => beqD a b
  | .bin o a b, .bin o' a' b' => decide (o = o') && (beqE a a' && beqE b b')
  | .neg a, .neg b => beqE a b
  | .cmp o a b, .cmp o' a' b' => decide (o = o') && (beqE a a' && beqE b b')
  | .chn o p a b c, .chn o' p' a' b' c' => decide (o = o') && (decide (p = p') && (beqE a a' && (beqE b b' && beqE c c')))
  | .and a b, .and a' b' => beqE a a' && beqE b b'
  | .or a b, .or a' b' => beqE a a' && beqE b b'
  | .not a, .not b => beqE a b
  | .ife c a b, .ife c' a' b' => beqE c c' && (beqE a a' && beqE b b')
  | .tup a, .tup b => beqEs a b
  | .lst a, .lst b => beqEs a b
  | .ix a i, .ix b j => beqE a b && beqE i j
  | .sl a l h, .sl a' l' h' => beqE a a' && (beqO l l' && beqO h h')
  | .rev a, .rev b => beqE a b
  | .call f a, .call g b => f == g && beqEs a b
  | .bi f a, .bi g b => decide (f = g) && beqEs a b
  | .isi a t, .isi b u => beqE a b && decide (t = u)
  | .comp e t k s v c, .comp e' t' k' s' v' c' => beqE e e' && (beqT t t' && (decide (k = k') && (beqEs s s' && (v == v' && beqO c c'))))
  | .comp2 e t k s t1 e1 v w, .comp2 e' t' k' s' t1' e1' v' w' => beqE e e' && (beqT t t' && (decide (k = k') && (beqEs s s' && (beqT t1 t1' && (beqE e1 e1' && (v == v' && w == w'))))))
  | .slen e t k s v, .slen e' t' k' s' v' => beqE e e' && (beqT t t' && (decide (k = k') && (beqEs s s' && v == v')))
  | .att k a f, .att k' a' f' => decide (k = k') && (decide (f = f') && beqE a a')
  | .meth k m j a es, .meth k' m' j' a' es' => decide (k = k') && (decide (m = m') && (j == j' && (beqE a a' && beqEs es es')))
  | .new k ns j es, .new k' ns' j' es' => decide (k = k') && (decide (ns = ns') && (j == j' && beqEs es es'))
  | _, _ => false
def beqEs : List E → List E → Bool
  | [], [] => true
  | a :: r, b :: s => beqE a b && beqEs r s
  | _, _ => false
def beqO : Option E → Option E → Bool
  | none, none => true
  | some a, some b => beqE a b
  | _, _ => false
end
mutual
theorem beqE_ok : ∀ (a b : E), beqE a b = true → a = b
  | .var i, b, h => by cases b <;> first | (cases h; done) | (unfold beqE at h; rw [beq_iff_eq] at h; rw [h])
  | .lit i, b, h => by cases b <;> first | (cases h; done) | (unfold beqE at h; rw [beqD_ok h])
  | .bin o x y, b, h => by cases b <;> first | (cases h; done) | (unfold beqE at h; simp only [Bool.and_eq_true, decide_eq_true_eq] at h; obtain ⟨rfl, h1, h2⟩ := h; rw [beqE_ok _ _ h1, beqE_ok _ _ h2])
  | .neg x, b, h => by cases b <;> first | (cases h; done) | (unfold beqE at h; rw [beqE_ok _ _ h])
  | .cmp o x y, b, h => by cases b <;> first | (cases h; done) | (unfold beqE at h; simp only [Bool.and_eq_true, decide_eq_true_eq] at h; obtain ⟨rfl, h1, h2⟩ := h; rw [beqE_ok _ _ h1, beqE_ok _ _ h2])
  | .chn o p x y z, b, h => by cases b <;> first | (cases h; done) | (unfold beqE at h; simp only [Bool.and_eq_true, decide_eq_true_eq] at h; obtain ⟨rfl, rfl, h1, h2, h3⟩ := h; rw [beqE_ok _ _ h1, beqE_ok _ _ h2, beqE_ok _ _ h3])
  | .and x y, b, h => by cases b <;> first | (cases h; done) | (unfold beqE at h; simp only [Bool.and_eq_true] at h; rw [beqE_ok _ _ h.1, beqE_ok _ _ h.2])
  | .or x y, b, h => by cases b <;> first | (cases h; done) | (unfold beqE at h; simp only [Bool.and_eq_true] at h; rw [beqE_ok _ _ h.1, beqE_ok _ _ h.2])
  | .not x, b, h => by cases b <;> first | (cases h; done) | (unfold beqE at h; rw [beqE_ok _ _ h])
  | .ife c x y, b, h => by cases b <;> first | (cases h; done) | (unfold beqE at h; simp only [Bool.and_eq_true] at h; rw [beqE_ok _ _ h.1, beqE_ok _ _ h.2.1, beqE_ok _ _ h.2.2])
  | .tup x, b, h => by cases b <;> first | (cases h; done) | (unfold beqE at h; rw [beqEs_ok _ _ h])
  | .lst x, b, h => by cases b <;> first | (cases h; done) | (unfold beqE at h; rw [beqEs_ok _ _ h])
  | .ix x y, b, h => by cases b <;> first | (cases h; done) | (unfold beqE at h; simp only [Bool.and_eq_true] at h; rw [beqE_ok _ _ h.1, beqE_ok _ _ h.2])
  | .sl x y z, b, h => by cases b <;> first | (cases h; done) | (unfold beqE at h; simp only [Bool.and_eq_true] at h; rw [beqE_ok _ _ h.1, beqO_ok _ _ h.2.1, beqO_ok _ _ h.2.2])
  | .rev x, b, h => by cases b <;> first | (cases h; done) | (unfold beqE at h; rw [beqE_ok _ _ h])
  | .call f x, b, h => by cases b <;> first | (cases h; done) | (unfold beqE at h; simp only [Bool.and_eq_true, beq_iff_eq] at h; rw [h.1, beqEs_ok _ _ h.2])
  | .bi f x, b, h => by cases b <;> first | (cases h; done) | (unfold beqE at h; simp only [Bool.and_eq_true, decide_eq_true_eq] at h; rw [h.1, beqEs_ok _ _ h.2])
  | .isi x t, b, h => by cases b <;> first | (cases h; done) | (unfold beqE at h; simp only [Bool.and_eq_true, decide_eq_true_eq] at h; rw [h.2, beqE_ok _ _ h.1])
  | .comp e t k s v c, b, h => by cases b <;> first | (cases h; done) | (unfold beqE at h; simp only [Bool.and_eq_true, decide_eq_true_eq, beq_iff_eq] at h; obtain ⟨h1, h2, rfl, h3, rfl, h4⟩ := h; rw [beqE_ok _ _ h1, beqT_ok h2, beqEs_ok _ _ h3, beqO_ok _ _ h4])
  | .comp2 e t k s t1 e1 v w, b, h => by cases b <;> first | (cases h; done) | (unfold beqE at h; simp only [Bool.and_eq_true, decide_eq_true_eq, beq_iff_eq] at h; obtain ⟨h1, h2, rfl, h3, h4, h5, rfl, rfl⟩ := h; rw [beqE_ok _ _ h1, beqT_ok h2, beqEs_ok _ _ h3, beqT_ok h4, beqE_ok _ _ h5])
  | .slen e t k s v, b, h => by cases b <;> first | (cases h; done) | (unfold beqE at h; simp only [Bool.and_eq_true, decide_eq_true_eq, beq_iff_eq] at h; obtain ⟨h1, h2, rfl, h3, rfl⟩ := h; rw [beqE_ok _ _ h1, beqT_ok h2, beqEs_ok _ _ h3])
  | .att k a f, b, h => by cases b <;> first | (cases h; done) | (unfold beqE at h; simp only [Bool.and_eq_true, decide_eq_true_eq] at h; obtain ⟨rfl, rfl, h1⟩ := h; rw [beqE_ok _ _ h1])
  | .meth k m j a es, b, h => by cases b <;> first | (cases h; done) | (unfold beqE at h; simp only [Bool.and_eq_true, decide_eq_true_eq, beq_iff_eq] at h; obtain ⟨rfl, rfl, rfl, h1, h2⟩ := h; rw [beqE_ok _ _ h1, beqEs_ok _ _ h2])
  | .new k ns j es, b, h => by cases b <;> first | (cases h; done) | (unfold beqE at h; simp only [Bool.and_eq_true, decide_eq_true_eq, beq_iff_eq] at h; obtain ⟨rfl, rfl, rfl, h1⟩ := h; rw [beqEs_ok _ _ h1])
theorem beqEs_ok : ∀ (a b : List E), beqEs a b = true → a = b
  | [], [], _ => rfl
  | a :: r, b :: s, h => by
    have h : (beqE a b && beqEs r s) = true := h
    rw [Bool.and_eq_true] at h
    rw [beqE_ok a b h.1, beqEs_ok r s h.2]
  | [], _ :: _, h => by cases h
  | _ :: _, [], h => by cases h
theorem beqO_ok : ∀ (a b : Option E), beqO a b = true → a = b
  | none, none, _ => rfl
  | some a, some b, h => by rw [beqE_ok a b h]
  | none, some _, h => by cases h
  | some _, none, h => by cases h
end
mutual
def beqS : S → S → Bool
  | .asg i e, .asg j f => i == j && beqE e f
  | .unp t e, .unp u f => beqTs t u && beqE e f
  | .par i e, .par j f => i == j && beqEs e f
  | .aug i o e, .aug j p f => i == j && (decide (o = p) && beqE e f)
  | .app i e, .app j f => i == j && beqE e f
  | .ext i e, .ext j f => i == j && beqE e f
  | .seti i x e, .seti j y f => i == j && (beqE x y && beqE e f)
  | .augi i x o e, .augi j y p f => i == j && (beqE x y && (decide (o = p) && beqE e f))
  | .ret e, .ret f => beqE e f
  | .ite c a b, .ite c' a' b' => beqE c c' && (beqSs a a' && beqSs b b')
  | .whl c a, .whl c' a' => beqE c c' && beqSs a a'
  | .for_ t k s b, .for_ t' k' s' b' => beqT t t' && (decide (k = k') && (beqEs s s' && beqSs b b'))
  | .brk, .brk => true
  | .cnt, .cnt => true
  | .pas, .pas => true
  | .ex e, .ex f => beqE e f
  | .nev, .nev => true
  | .zap p i e t s v, .zap p' i' e' t' s' v' => p == p' && (i == i' && (beqE e e' && (beqT t t' && (beqEs s s' && v == v'))))
  | _, _ => false
def beqSs : List S → List S → Bool
  | [], [] => true
  | a :: r, b :: s => beqS a b && beqSs r s
  | _, _ => false
end
mutual
theorem beqS_ok : ∀ (a b : S), beqS a b = true → a = b
  | .asg i e, b, h => by cases b <;> first | (cases h; done) | (unfold beqS at h; simp only [Bool.and_eq_true, beq_iff_eq] at h; rw [h.1, beqE_ok _ _ h.2])
  | .unp i e, b, h => by cases b <;> first | (cases h; done) | (unfold beqS at h; simp only [Bool.and_eq_true] at h; rw [beqTs_ok h.1, beqE_ok _ _ h.2])
  | .par i e, b, h => by cases b <;> first | (cases h; done) | (unfold beqS at h; simp only [Bool.and_eq_true, beq_iff_eq] at h; rw [h.1, beqEs_ok _ _ h.2])
  | .aug i o e, b, h => by cases b <;> first | (cases h; done) | (unfold beqS at h; simp only [Bool.and_eq_true, beq_iff_eq, decide_eq_true_eq] at h; rw [h.1, h.2.1, beqE_ok _ _ h.2.2])
  | .app i e, b, h => by cases b <;> first | (cases h; done) | (unfold beqS at h; simp only [Bool.and_eq_true, beq_iff_eq] at h; rw [h.1, beqE_ok _ _ h.2])
  | .ext i e, b, h => by cases b <;> first | (cases h; done) | (unfold beqS at h; simp only [Bool.and_eq_true, beq_iff_eq] at h; rw [h.1, beqE_ok _ _ h.2])
  | .seti i x e, b, h => by cases b <;> first | (cases h; done) | (unfold beqS at h; simp only [Bool.and_eq_true, beq_iff_eq] at h; rw [h.1, beqE_ok _ _ h.2.1, beqE_ok _ _ h.2.2])
  | .augi i x o e, b, h => by cases b <;> first | (cases h; done) | (unfold beqS at h; simp only [Bool.and_eq_true, beq_iff_eq, decide_eq_true_eq] at h; rw [h.1, beqE_ok _ _ h.2.1, h.2.2.1, beqE_ok _ _ h.2.2.2])
  | .ret e, b, h => by cases b <;> first | (cases h; done) | (unfold beqS at h; rw [beqE_ok _ _ h])
  | .ite c x y, b, h => by cases b <;> first | (cases h; done) | (unfold beqS at h; simp only [Bool.and_eq_true] at h; rw [beqE_ok _ _ h.1, beqSs_ok _ _ h.2.1, beqSs_ok _ _ h.2.2])
  | .whl c x, b, h => by cases b <;> first | (cases h; done) | (unfold beqS at h; simp only [Bool.and_eq_true] at h; rw [beqE_ok _ _ h.1, beqSs_ok _ _ h.2])
  | .for_ t k s x, b, h => by cases b <;> first | (cases h; done) | (unfold beqS at h; simp only [Bool.and_eq_true, decide_eq_true_eq] at h; rw [beqT_ok h.1, h.2.1, beqEs_ok _ _ h.2.2.1, beqSs_ok _ _ h.2.2.2])
  | .brk, b, h => by cases b <;> first | (cases h; done) | rfl
  | .cnt, b, h => by cases b <;> first | (cases h; done) | rfl
  | .pas, b, h => by cases b <;> first | (cases h; done) | rfl
  | .ex e, b, h => by cases b <;> first | (cases h; done) | (unfold beqS at h; rw [beqE_ok _ _ h])
  | .nev, b, h => by cases b <;> first | (cases h; done) | rfl
  | .zap p i e t s v, b, h => by cases b <;> first | (cases h; done) | (unfold beqS at h; simp only [Bool.and_eq_true, beq_iff_eq] at h; obtain ⟨rfl, rfl, h1, h2, h3, rfl⟩ := h; rw [beqE_ok _ _ h1, beqT_ok h2, beqEs_ok _ _ h3])
theorem beqSs_ok : ∀ (a b : List S), beqSs a b = true → a = b
  | [], [], _ => rfl
  | a :: r, b :: s, h => by
    have h : (beqS a b && beqSs r s) = true := h
    rw [Bool.and_eq_true] at h
    rw [beqS_ok a b h.1, beqSs_ok r s h.2]
  | [], _ :: _, h => by cases h
  | _ :: _, [], h => by cases h
end
structure FI where
  name : Str
  st : Stmt
  ps : List Str
  N : List Str
  df : Df
  qual : Str
  cls : Option Str
def ownN (sc : Scope) : List Str := sc.names.filterMap fun y => match y.2 with
  | .local => some y.1
  | .cell => some y.1
  | _ => none
def mkC (fn : List (Str × Nat × Nat)) (bt : List Str) (lib : List (Str × String)) (tb : Tb) (g : FI) : C := ⟨g.N, defScope g.st, (ownN (defScope g.st)).filter (fun x => (defScope g.st).names.lookup x == some .local || (defScope g.st).names.lookup x == some .cell), fn, bt, lib, tb⟩
def fn1 (g : FI × Nat) : Option (Str × Nat × Nat) := match g.1.cls with
  | none => some (g.1.name, g.2, g.1.ps.length)
  | some _ => none
def mt1 (g : FI × Nat) : Option (Str × Str × Nat × Nat) := match g.1.cls with
  | none => none
  | some k => some (g.1.name, k, g.2, g.1.ps.length)
def fnT (fs : List FI) : List (Str × Nat × Nat) := fs.zipIdx.filterMap fn1
def mtT (fs : List FI) : List (Str × Str × Nat × Nat) := fs.zipIdx.filterMap mt1
def trS (fn : List (Str × Nat × Nat)) (bt : List Str) (lib : List (Str × String)) (tb : Tb) (g : FI) : Option (List S) := cB (cZ 300 (mkC fn bt lib tb g)) (cWo 300 (mkC fn bt lib tb g) (cS 300 (mkC fn bt lib tb g))) (defBody g.st)
/-- a look at a def's scope -/
def scB (N P : List Str) (sc : Scope) : Bool :=
  (match sc.kind with | .function => true | _ => false) && (!sc.isCoroutine && (!sc.isGenerator && (decide N.Nodup && (decide (N.take P.length = P) && (P.all (fun x => sc.names.lookup x == some .local || sc.names.lookup x == some .cell) && sc.names.all (fun y => match y.2 with | .free => false | _ => true))))))
theorem scB_ok {N P : List Str} {sc : Scope} (h : scB N P sc = true) : FnScope N P sc := by
  unfold scB at h
  simp only [Bool.and_eq_true, Bool.not_eq_true', decide_eq_true_eq, List.all_eq_true, Bool.or_eq_true, beq_iff_eq] at h
  obtain ⟨h1, h2, h3, h4, h5, h6, h7⟩ := h
  refine ⟨?_, h2, h3, h4, h5, h6, fun y hy z => ?_⟩
  · split at h1
    · assumption
    · cases h1
  · have := h7 y hy
    rw [z] at this
    cases this
def chk (fn : List (Str × Nat × Nat)) (bt : List Str) (lib : List (Str × String)) (tb : Tb) (g : FI) : Bool :=
  scB g.N g.ps (defScope g.st) && (g.df.n == g.N.length && match trS fn bt lib tb g with
    | some ss => beqSs ss g.df.body
    | none => false)
theorem chk_ok {fn : List (Str × Nat × Nat)} {bt : List Str} {lib : List (Str × String)} {tb : Tb} {g : FI} (h : chk fn bt lib tb g = true) : FnScope g.N g.ps (defScope g.st) ∧ g.df.n = g.N.length ∧ trS fn bt lib tb g = some g.df.body := by
  unfold chk at h
  rw [Bool.and_eq_true, Bool.and_eq_true, beq_iff_eq] at h
  refine ⟨scB_ok h.1, h.2.1, ?_⟩
  have h := h.2.2
  split at h
  · rename_i ss e; rw [e, beqSs_ok _ _ h]
  · cases h
theorem fnT_lookup : ∀ {fs : List FI} {m : Nat} {x : Str} {j n : Nat}, ((fs.zipIdx m).filterMap fn1).lookup x = some (j, n) → ∃ g, fs[j - m]? = some g ∧ g.name = x ∧ g.ps.length = n ∧ g.cls = none ∧ m ≤ j
  | [], m, x, j, n, h => by cases h
  | g :: r, m, x, j, n, h => by
    rw [List.zipIdx_cons, List.filterMap_cons] at h
    have next : ((r.zipIdx (m + 1)).filterMap fn1).lookup x = some (j, n) → ∃ g', (g :: r)[j - m]? = some g' ∧ g'.name = x ∧ g'.ps.length = n ∧ g'.cls = none ∧ m ≤ j := fun h => by
      obtain ⟨g', e1, e2, e3, e5, e4⟩ := fnT_lookup h
      refine ⟨g', ?_, e2, e3, e5, by omega⟩
      rw [show j - m = (j - (m + 1)) + 1 by omega, List.getElem?_cons_succ]
      exact e1
    cases hc : g.cls with
    | some k =>
      have e : fn1 (g, m) = none := by unfold fn1; dsimp only; rw [hc]
      rw [e] at h
      exact next h
    | none =>
      have e : fn1 (g, m) = some (g.name, m, g.ps.length) := by unfold fn1; dsimp only; rw [hc]
      rw [e] at h
      dsimp only at h
      rw [List.lookup_cons] at h
      split at h
      · rename_i e
        cases h
        exact ⟨g, by simp, (beq_iff_eq.mp e).symm, rfl, hc, Nat.le_refl _⟩
      · exact next h
theorem mtT_lookup : ∀ {fs : List FI} {m : Nat} {x k : Str} {j n : Nat}, ((fs.zipIdx m).filterMap mt1).lookup x = some (k, j, n) → ∃ g, fs[j - m]? = some g ∧ g.name = x ∧ g.ps.length = n ∧ g.cls = some k ∧ m ≤ j
  | [], m, x, k, j, n, h => by cases h
  | g :: r, m, x, k, j, n, h => by
    rw [List.zipIdx_cons, List.filterMap_cons] at h
    have next : ((r.zipIdx (m + 1)).filterMap mt1).lookup x = some (k, j, n) → ∃ g', (g :: r)[j - m]? = some g' ∧ g'.name = x ∧ g'.ps.length = n ∧ g'.cls = some k ∧ m ≤ j := fun h => by
      obtain ⟨g', e1, e2, e3, e5, e4⟩ := mtT_lookup h
      refine ⟨g', ?_, e2, e3, e5, by omega⟩
      rw [show j - m = (j - (m + 1)) + 1 by omega, List.getElem?_cons_succ]
      exact e1
    cases hc : g.cls with
    | none =>
      have e : mt1 (g, m) = none := by unfold mt1; dsimp only; rw [hc]
      rw [e] at h
      exact next h
    | some k' =>
      have e : mt1 (g, m) = some (g.name, k', m, g.ps.length) := by unfold mt1; dsimp only; rw [hc]
      rw [e] at h
      dsimp only at h
      rw [List.lookup_cons] at h
      cases hx : x == g.name with
      | true =>
        rw [hx] at h
        cases h
        exact ⟨g, by simp, (beq_iff_eq.mp hx).symm, rfl, hc, Nat.le_refl _⟩
      | false =>
        rw [hx] at h
        exact next h
def storeB (sc : Scope) (ps : List Str) (i : Nat) (a : Str) : Stmt → Bool
  | .Assign [.Attribute (.Name s _) f _] (.Name p _) _ => (ps[0]? == some s) && ((ps[i]? == some p) && ((f == a) && (visB sc s && (okName s && (visB sc p && okName p)))))
  | _ => false
theorem store_inv {sc : Scope} {ps : List Str} {i : Nat} {a : Str} {st : Stmt} (h : storeB sc ps i a st = true) : ∃ s p1 p2 p p3 pos, st = .Assign [.Attribute (.Name s p1) a p2] (.Name p p3) pos ∧ ps[0]? = some s ∧ ps[i]? = some p ∧ Vis sc s ∧ okName s = true ∧ Vis sc p ∧ okName p = true := by
  unfold storeB at h
  split at h
  · simp only [Bool.and_eq_true, beq_iff_eq] at h
    obtain ⟨h1, h2, rfl, h4, h5, h6, h7⟩ := h
    exact ⟨_, _, _, _, _, _, rfl, h1, h2, visB_ok h4, h5, visB_ok h6, h7⟩
  · cases h
def storesB (sc : Scope) (ps : List Str) : Nat → List Str → List Stmt → Bool
  | _, [], [] => true
  | i, a :: ns, st :: r => storeB sc ps i a st && storesB sc ps (i + 1) ns r
  | _, _, _ => false
def iniB (st : Stmt) (ps ns : List Str) : Bool :=
  scB ps ps (defScope st) && decide ns.Nodup && decide (ns.length < 1000) && decide (ps.length = ns.length + 1) && storesB (defScope st) ps 1 ns (defBody st)
theorem putF_new {f : Str} {v : V} : ∀ {fs : List (Str × V)}, (∀ y ∈ fs, y.1 ≠ f) → putF f v fs = fs ++ [(f, v)]
  | [], _ => rfl
  | (g, x) :: r, h => by
    unfold putF
    rw [if_neg (h (g, x) (List.mem_cons_self ..)), putF_new fun y hy => h y (List.mem_cons_of_mem _ hy)]
    rfl
theorem upd_id {H : Hp} {a : Addr} {o : HO} (h : H a = some o) : upd H a o = H := by
  funext b
  unfold upd
  split
  · rename_i e; rw [e, h]
  · rfl
theorem stores_ok {X : Cx} {C p dx : Addr} {ps : List Str} (hN : X.N = ps) (cl : Cls X.K C) {σ : Sg} (h0 : σ[0]? = some (some (.ref p))) : ∀ (body : List Stmt) (ns : List Str) (i : Nat), storesB X.env.scope ps i ns body = true → (∀ a ∈ ns, NoAttr X.K C a) → ns.Nodup →
    ∃ t, PSs X body t ∧ ∀ (D : Ends) (H : Hp) (done : List (Str × V)) (us : List V), H p = some (.ins C dx done) → us.length = ns.length → (∀ k u, us[k]? = some u → σ[i + k]? = some (some u)) → (∀ y ∈ done, y.1 ∉ ns) → done.length + ns.length < 1000 →
      D.nx σ (upd H p (.ins C dx (done ++ ns.zip us))) → t D σ H
  | [], [], i, _, _, _ => ⟨_, pss_nil, fun D H done us hp hl _ _ _ k => by
      have : us = [] := List.length_eq_zero_iff.mp hl
      subst this
      show D.nx σ H
      rw [show done ++ ([] : List Str).zip ([] : List V) = done from List.append_nil _, upd_id hp] at k
      exact k⟩
  | [], _ :: _, i, h, _, _ => by cases h
  | st :: r, [], i, h, _, _ => by cases h
  | st :: r, a :: ns, i, h, hna, hnd => by
    have h : (storeB X.env.scope ps i a st && storesB X.env.scope ps (i + 1) ns r) = true := h
    rw [Bool.and_eq_true] at h
    obtain ⟨s, w1, w2, pn, w3, w4, rfl, h1, h2, h4, h5, h6, h7⟩ := store_inv h.1
    have h8 := h.2
    obtain ⟨s1, s2, s3⟩ := okName_ok h5
    obtain ⟨p1, p2, p3⟩ := okName_ok h7
    obtain ⟨t, ht, k⟩ := stores_ok hN cl h0 r ns (i + 1) h8 (fun b hb => hna b (List.mem_cons_of_mem _ hb)) (List.nodup_cons.mp hnd).2
    refine ⟨_, pss_cons (ps_fld (pe_var (i := 0) (by rw [hN]; exact h1) h4 s1 s2) (pe_var (i := i) (by rw [hN]; exact h2) h6 p1 p2) rfl) ht, fun D H done us hp hl hs hd h9 kk => ?_⟩
    cases us with
    | nil => cases hl
    | cons u us =>
      have hl : us.length = ns.length := Nat.succ.inj hl
      have e0 : σ[i]? = some (some u) := hs 0 u rfl
      rw [List.length_cons] at h9
      refine ⟨u, e0, .ref p, h0, p, C, dx, done, rfl, hp, cl, hna _ (List.mem_cons_self ..), by omega, ?_⟩
      have hpf : putF a u done = done ++ [(a, u)] := putF_new fun y hy z => hd y hy (by rw [z]; exact List.mem_cons_self ..)
      show t D σ (upd H p (.ins C dx (putF a u done)))
      rw [hpf]
      refine k D _ (done ++ [(a, u)]) us upd_same hl (fun j w hw => ?_) (fun y hy => ?_) (by rw [List.length_append, List.length_cons, List.length_nil]; omega) ?_
      · rw [show i + 1 + j = i + (j + 1) by omega]
        exact hs (j + 1) w (by rw [List.getElem?_cons_succ]; exact hw)
      · rcases List.mem_append.mp hy with q | q
        · exact fun z => hd y q (List.mem_cons_of_mem _ z)
        · rw [List.mem_singleton.mp q]; exact (List.nodup_cons.mp hnd).1
      · rw [upd_upd, List.append_assoc]
        exact kk
section
variable {P : Program} {w : World} {K : PySem.W.Frag} {mg : Str → Option Value} {base : Heap} {fs : List FI} {bt : List Str} {lib : List (Str × String)} {tb : Tb} {Q : List Df}
theorem ini_ok {x qual : Str} {st : Stmt} {f C : Addr} {fd : FuncData} {ps ns : List Str} (F : Fun K x qual st f fd) (hB : iniB st ps ns = true) (cl : Cls K C) (hna : ∀ a ∈ ns, NoAttr K C a) : FnOk P w K mg base CX0 1 f fd ps (spI C ns) := by
  unfold iniB at hB
  simp only [Bool.and_eq_true, decide_eq_true_eq] at hB
  obtain ⟨⟨⟨⟨h1, h2⟩, h3⟩, h4⟩, h5⟩ := hB
  have S := scB_ok h1
  refine F.ok S (fun vs H Q E ⟨p, dx, us, e, hl, _⟩ => by rw [e, List.length_cons, hl, h4]) fun cdv A outer s H vs Q E hr ⟨p, dx, us, e, hl, hp, k⟩ => ?_
  subst e
  have hst : L2.start ps (.ref p :: us) = (V.ref p :: us).map some := by
    unfold L2.start
    rw [show ps.length - (V.ref p :: us).length = 0 by rw [List.length_cons, hl, h4]; omega]
    simp
  obtain ⟨t, ht, kk⟩ := stores_ok (X := (cxOf CX0 P w K mg base ps qual (defScope st) f cdv A outer s H E).nox) (C := C) (p := p) (dx := dx) (ps := ps) rfl cl (σ := (V.ref p :: us).map some) rfl (defBody st) ns 1 h5 hna h2
  refine ⟨t, ht, ?_⟩
  rw [hst]
  refine kk _ H [] us hp hl (fun j u hu => ?_) (fun y hy => by cases hy) (by rw [List.length_nil]; omega) k
  rw [show 1 + j = j + 1 by omega, List.map_cons, List.getElem?_cons_succ, List.getElem?_map, hu]
  rfl
def CiOk (K : PySem.W.Frag) (mg : Str → Option Value) (k : Str) (ns : List Str) : Prop :=
  ∃ C f fd qual st ps, CK K C k ∧ Mk K C f ∧ Fun K "__init__" qual st f fd ∧ iniB st ps ns = true ∧ mg k = some (.ref C) ∧ Binds K fd ps [] ∧ Cls K C ∧ ∀ a ∈ ns, NoAttr K C a
def FiOk (K : PySem.W.Frag) (mg : Str → Option Value) (g : FI) : Prop :=
  ∃ f fd, Fun K g.name g.qual g.st f fd ∧ Binds K fd g.ps [] ∧ (g.cls = none → mg g.name = some (.ref f)) ∧ ∀ k, g.cls = some k → ∃ C, CK K C k ∧ Cls K C ∧ Meth K C g.name f
structure Have (K : PySem.W.Frag) (mg : Str → Option Value) (fs : List FI) (bt : List Str) (lib : List (Str × String)) (tb : Tb) : Prop where
  fns : ∀ g ∈ fs, FiOk K mg g
  bts : ∀ x ∈ bt, mg x = none
  lib : ∀ x id, lib.lookup x = some id → mg x = some (.builtin id)
  mts : ∀ m k j n, tb.mt.lookup m = some (k, j, n) → (mtT fs).lookup m = some (k, j, n)
  cls : ∀ k ns, tb.cl.lookup k = some ns → CiOk K mg k ns
  fls : ∀ f k, tb.fl.lookup f = some k → ∃ C, CK K C k ∧ Cls K C ∧ NoAttr K C f
  csts : ∀ x i, tb.cs.lookup x = some i → ∃ t, mg x = some (.int i t)
theorem er_start {O : Addr → Prop} {H : Hp} {vs : List V} {ds : List D} {N : List Str} {n : Nat} (ol : ∀ a, O a → ∃ xs, H a = some (.lst xs)) (r : Reps K O H vs ds) (hn : n = N.length) : ER K O H H (L2.start N vs) (Wi.start n ds) := by
  subst hn
  have hl := r.length
  have e2 : Wi.start N.length ds = ds.map Sl.v ++ List.replicate (N.length - vs.length) Sl.no := by unfold Wi.start; rw [hl]
  have noOwn : ∀ (i : Nat) xs, (Wi.start N.length ds)[i]? ≠ some (.own xs) := fun i xs h => by
    rw [e2] at h
    by_cases hi : i < (ds.map Sl.v).length
    · rw [List.getElem?_append_left hi, List.getElem?_map] at h
      cases e : ds[i]? <;> rw [e] at h <;> cases h
    · rw [List.getElem?_append_right (by omega), List.getElem?_replicate] at h
      split at h <;> cases h
  have ofO : ∀ a, Of O (L2.start N vs) (Wi.start N.length ds) [] a → O a := fun a z => by
    rcases z with z | ⟨i, _, ⟨xs, z⟩, _⟩
    · exact z
    · exact absurd z (noOwn i xs)
  refine ⟨?_, fun _ _ h => h, ol, fun i d h => ?_, fun i xs h => absurd h (noOwn i xs), fun i j a h _ => by obtain ⟨⟨xs, z⟩, _⟩ := h; exact absurd z (noOwn i xs)⟩
  · rw [e2]
    unfold L2.start
    rw [List.length_append, List.length_append, List.length_map, List.length_map, List.length_replicate, List.length_replicate, hl]
  · rw [e2] at h
    by_cases hi : i < (ds.map Sl.v).length
    · rw [List.getElem?_append_left hi, List.getElem?_map] at h
      obtain ⟨d', e1, e3⟩ := Option.map_eq_some_iff.mp h
      cases e3
      obtain ⟨v, f1, f2⟩ := r.get e1
      refine ⟨v, ?_, rep_weak ol ofO f2⟩
      unfold L2.start
      rw [List.getElem?_append_left (by rw [List.length_map] at hi ⊢; omega), List.getElem?_map, f1]
      rfl
    · rw [List.getElem?_append_right (by omega), List.getElem?_replicate] at h
      split at h <;> cases h
theorem prog_ok (hv : Have K mg fs bt lib tb) (ok : fs.all (chk (fnT fs) bt lib tb) = true) (hP : ∀ (j : Nat) (g : FI), fs[j]? = some g → Q[j]? = some g.df) (hpr : ∀ k ns, tb.cl.lookup k = some ns → ∀ n r, run Q n tb.pr [] = some r → 2 ≤ n) : ∀ (n j : Nat) (g : FI) (f : Addr) (fd : FuncData), fs[j]? = some g → Fun K g.name g.qual g.st f fd → FnOk P w K mg base CX0 n f fd g.ps (spD K g.ps.length (run Q n j))
  | 0, j, g, f, fd, hj, F => ⟨fun vs H Q E ⟨O, ds, r, _, hr, hl, _⟩ => by rw [hr.length, hl], fun A outer s H args us vs Q E _ _ _ _ ⟨O, ds, r, _, _, _, e, _⟩ => by cases e⟩
  | n + 1, j, g, f, fd, hj, F => by
    have hg : g ∈ fs := List.mem_of_getElem? hj
    obtain ⟨hS, hn, ht⟩ := chk_ok (List.all_eq_true.mp ok g hg)
    refine F.ok hS (fun vs H Q E ⟨O, ds, r, _, hr, hl, _⟩ => by rw [hr.length, hl]) fun cdv A outer s H vs Q' E hr hsp => ?_
    obtain ⟨O, ds, r, ol, rp, hl, er, k⟩ := hsp
    have er : ((Q[j]?).bind fun d => callD (run Q n) d ds) = some r := er
    rw [hP j g hj] at er
    have er : ((dnSs (run Q n) g.df.body (Wi.start g.df.n ds)).bind fun q => match q with
      | .nx _ => some (.v .none)
      | .rt r => some r
      | _ => none) = some r := er
    obtain ⟨q, e1, e2⟩ := Option.bind_eq_some_iff.mp er
    have xok : XOk (mkC (fnT fs) bt lib tb g) (cxOf CX0 P w K mg base g.N g.qual (defScope g.st) f cdv A outer s H E).nox (run Q n) := by
      refine ⟨rfl, hS.nd, rfl, hS.kind, rfl, rfl, fun x hx => ?_, fun x i m hx => ?_, fun x hx => hv.bts x (List.contains_iff_mem.mp hx), fun x id hx => hv.lib x id hx, ?_, fun m k i nn hx => ?_, fun k ns hx => ?_, fun k ns hx r hr2 => hr.mono (hpr k ns hx n r hr2), fun f k hx => hv.fls f k hx, fun x i hx => hv.csts x i hx⟩
      · have hx := (List.mem_filter.mp hx).2
        rw [Bool.or_eq_true, beq_iff_eq, beq_iff_eq] at hx
        exact ⟨hx, .inl rfl⟩
      · obtain ⟨g', a1, a2, a3, a4, _⟩ := fnT_lookup (m := 0) hx
        obtain ⟨f', fd', b1, b2, b3, _⟩ := hv.fns g' (List.mem_of_getElem? a1)
        subst a2
        subst a3
        exact ⟨f', fd', g'.ps, n, prog_ok hv ok hP hpr n i g' f' fd' (by simpa using a1) b1, hr, b3 a4, b1.kp, b2⟩
      · have := hr.un
        show (A.deeper _).units + 100 < cLine
        omega
      · obtain ⟨g', a1, a2, a3, a4, _⟩ := mtT_lookup (m := 0) (hv.mts m k i nn hx)
        obtain ⟨f', fd', b1, b2, _, b4⟩ := hv.fns g' (List.mem_of_getElem? a1)
        obtain ⟨C, c1, c2, c3⟩ := b4 k a4
        subst a2
        subst a3
        exact ⟨C, f', fd', g'.ps, n, c1, c2, c3, prog_ok hv ok hP hpr n i g' f' fd' (by simpa using a1) b1, hr, b2⟩
      · obtain ⟨C, f', fd', qual, st, ps, c1, c2, c3, c4, c5, c6, c7, c8⟩ := hv.cls k ns hx
        exact ⟨C, f', fd', ps, c1, c2, ini_ok c3 c4 c7 c8, c5, c6⟩
    refine ⟨_, cB_ok xok (cWo_ok (n := 300) xok fun st ir h => cS_ok 300 _ st ir h _ _ xok) ht, O, H, _, q, er_start ol rp hn, e1, ?_⟩
    cases q with
    | nx e3 => cases e2; exact fun σ' H' R => k .non H' R.ext .non
    | rt r2 => cases e2; exact fun v H' s' rr => k v H' s' rr
    | bk e3 => cases e2
    | ct e3 => cases e2
end
end Wi

namespace Wi
open PySem PySem.Spec PyProof.Rows L2
def iD (ns : List Int) : List D := ns.map PyData.int
def spLaw (K : PySem.W.Frag) : Sp := fun vs H Q _ => ∃ (a : Addr) (ns : List Int), vs = [.ref a] ∧ SqL K H a (ns.map V.int) ∧ ns.length ≤ 63 ∧ Only H ∧ ∀ H', Q (.bl true) H'
theorem fnh_nil {K : PySem.W.Frag} {mg : Str → Option Value} : ∀ g ∈ ([] : List FI), FiOk K mg g := fun _ h => by cases h
theorem fnh_cons {K : PySem.W.Frag} {mg : Str → Option Value} {g : FI} {r : List FI} (h : FiOk K mg g) (t : ∀ g ∈ r, FiOk K mg g) : ∀ g' ∈ g :: r, FiOk K mg g' := fun g' hg => by
  rcases List.mem_cons.mp hg with rfl | hg
  · exact h
  · exact t g' hg
theorem bts_nil {mg : Str → Option Value} : ∀ x ∈ ([] : List Str), mg x = none := fun _ h => by cases h
theorem bts_cons {mg : Str → Option Value} {x : Str} {r : List Str} (h : mg x = none) (t : ∀ x ∈ r, mg x = none) : ∀ y ∈ x :: r, mg y = none := fun y hy => by
  rcases List.mem_cons.mp hy with rfl | hy
  · exact h
  · exact t y hy
theorem lib_nil {mg : Str → Option Value} : ∀ (x : Str) (id : String), ([] : List (Str × String)).lookup x = some id → mg x = some (.builtin id) := fun _ _ h => by cases h
theorem lib_cons {mg : Str → Option Value} {y : Str} {i : String} {r : List (Str × String)} (h : mg y = some (.builtin i)) (t : ∀ (x : Str) (id : String), r.lookup x = some id → mg x = some (.builtin id)) : ∀ (x : Str) (id : String), ((y, i) :: r).lookup x = some id → mg x = some (.builtin id) := fun x id e => by
  rw [List.lookup_cons] at e
  split at e
  · rename_i q
    cases e
    rw [beq_iff_eq.mp q]; exact h
  · exact t x id e
section
variable {P : Program} {w : World} {K : PySem.W.Frag} {mg : Str → Option Value} {base : Heap} {fs : List FI} {bt : List Str} {lib : List (Str × String)} {tb : Tb} {Q : List Df}
/-- a def of the module, a method -/
theorem fi_fn {g : FI} {f : Addr} {fd : FuncData} (F : Fun K g.name g.qual g.st f fd) (m : mg g.name = some (.ref f)) (b : Binds K fd g.ps []) (hc : g.cls = none) : FiOk K mg g := by
  refine ⟨f, fd, F, b, fun _ => m, fun k h => ?_⟩
  rw [hc] at h
  cases h
theorem cls_nil : ∀ k ns, ([] : List (Str × List Str)).lookup k = some ns → CiOk K mg k ns := fun _ _ h => by cases h
theorem fls_nil : ∀ (f k : Str), ([] : List (Str × Str)).lookup f = some k → ∃ C, CK K C k ∧ Cls K C ∧ NoAttr K C f := fun _ _ h => by cases h
theorem csts_nil : ∀ (x : Str) (i : Int), ([] : List (Str × Int)).lookup x = some i → ∃ t, mg x = some (.int i t) := fun _ _ h => by cases h
theorem all_nil {α : Type} {p : α → Prop} : ∀ a ∈ ([] : List α), p a := fun _ h => by cases h
theorem all_cons {α : Type} {p : α → Prop} {a : α} {r : List α} (h : p a) (t : ∀ a ∈ r, p a) : ∀ b ∈ a :: r, p b := fun b hb => by
  rcases List.mem_cons.mp hb with rfl | hb
  · exact h
  · exact t b hb
theorem hP_of {fs : List FI} {Q r : List Df} (h : Q = fs.map FI.df ++ r) : ∀ (j : Nat) (g : FI), fs[j]? = some g → Q[j]? = some g.df := fun j g hj => by
  have hl : j < fs.length := (List.getElem?_eq_some_iff.mp hj).1
  rw [h, List.getElem?_append_left (by rw [List.length_map]; exact hl), List.getElem?_map, hj]
  rfl
theorem reps_ints {O : Addr → Prop} {H : Hp} : ∀ ns : List Int, Reps K O H (ns.map V.int) (iD ns)
  | [] => .nil
  | x :: r => .cons (.int x) (reps_ints r)
theorem law_fn (hv : Have K mg fs bt lib tb) (ok : fs.all (chk (fnT fs) bt lib tb) = true) (hP : ∀ (j : Nat) (g : FI), fs[j]? = some g → Q[j]? = some g.df) (hpr : ∀ k ns, tb.cl.lookup k = some ns → ∀ n r, run Q n tb.pr [] = some r → 2 ≤ n) {k j : Nat} {g : FI} (hj : fs[j]? = some g) (hp : g.ps.length = 1) (hrun : ∀ ns : List Int, ns.length ≤ 63 → run Q k j [fz (iD ns)] = some (.v (.bool true))) {f : Addr} {fd : FuncData} (F : Fun K g.name g.qual g.st f fd) :
    FnOk P w K mg base CX0 k f fd g.ps (spLaw K) := by
  refine (prog_ok hv ok hP hpr k j g f fd hj F).imp fun vs H Q E h => ?_
  obtain ⟨a, ns, rfl, hS, hl, ho, q⟩ := h
  refine ⟨fun _ => False, [fz (iD ns)], _, fun _ z => z.elim, .cons (.frz ?_ (reps_ints ns)) .nil, hp.symm, hrun ns hl, fun v H' s r => ?_⟩
  · rcases hS with (h | ⟨o, h⟩) | h
    · rcases ho a with e | ⟨o, xs, e⟩ <;> rw [e] at h <;> cases h
    · exact .inl ⟨o, h⟩
    · exact .inr h
  · cases r
    exact q _
end
end Wi

namespace Wp
open PySem Wi
theorem run_s {P : List Df} {n i : Nat} {ds : List D} : run P (n + 1) i ds = (P[i]?).bind fun d => callD (run P n) d ds := rfl
def nth {α : Type} (xs : List α) (k : Nat) : Option α := xs[k]?
@[simp] theorem nth_0 {α : Type} {x : α} {r : List α} : nth (x :: r) 0 = some x := rfl
@[simp] theorem nth_s {α : Type} {x : α} {r : List α} {k : Nat} : nth (x :: r) (k + 1) = nth r k := by unfold nth; rw [List.getElem?_cons_succ]
theorem nth_some {α : Type} {xs : List α} {k : Nat} (h : k < xs.length) : nth xs k = some xs[k] := List.getElem?_eq_getElem h
def intR : Option Int → Option D
  | some z => some (.int z)
  | none => none
@[simp] theorem intR_s {z : Int} : intR (some z) = some (.int z) := rfl
@[simp] theorem nth_iD {ns : List Int} {k : Nat} : nth (iD ns) k = intR (nth ns k) := by
  unfold nth iD
  rw [List.getElem?_map]
  cases ns[k]? <;> rfl
def binR (o : O2) : Option RV → Option RV → Option RV
  | some x, some y => o2 o x.d y.d
  | _, _ => none
def cmR (o : Cm) : Option RV → Option RV → Option Bool
  | some x, some y => cm o x.d y.d
  | _, _ => none
def bR : Option Bool → Option RV
  | some b => some (.v (.bool b))
  | none => none
def negR : Option RV → Option RV
  | some (.v (.int i)) => some (.v (.int (-i)))
  | _ => none
def andR (a : Option RV) (b : Option RV) : Option RV := match a with
  | some (.v (.bool true)) => b
  | some (.v (.bool false)) => some (.v (.bool false))
  | _ => none
def orR (a : Option RV) (b : Option RV) : Option RV := match a with
  | some (.v (.bool true)) => some (.v (.bool true))
  | some (.v (.bool false)) => b
  | _ => none
def truR : Option RV → Option Bool
  | some x => truth x.d
  | none => none
def notB : Option Bool → Option Bool
  | some b => some (!b)
  | none => none
def andB (a b : Option Bool) : Option Bool := match a with
  | some true => b
  | some false => some false
  | none => none
def orB (a b : Option Bool) : Option Bool := match a with
  | some true => some true
  | some false => b
  | none => none
def ifR {α : Type} (c : Option Bool) (a b : Option α) : Option α := match c with
  | some true => a
  | some false => b
  | none => none
def ixR : Option RV → Option RV → Option RV
  | some x, some y => match item x.d y.d with
    | some d => some (.v d)
    | none => none
  | _, _ => none
def consR : Option RV → Option (List D) → Option (List D)
  | some x, some xs => some (x.d :: xs)
  | _, _ => none
def tupR : Option (List D) → Option RV
  | some xs => some (.v (.tuple xs))
  | none => none
def lstR : Option (List D) → Option RV
  | some xs => some (.l xs)
  | none => none
def appR (f : List D → Option RV) : Option (List D) → Option RV
  | some xs => f xs
  | none => none
def isiR (t : Ty) : Option RV → Option Bool
  | some x => isTy t x.d
  | none => none
def seqR (o : Option Res) (k : En → Option Res) : Option Res := match o with
  | some (.nx e) => k e
  | some (.rt r) => some (.rt r)
  | some (.bk e) => some (.bk e)
  | some (.ct e) => some (.ct e)
  | none => none
def iteS (c : Option Bool) (f g : En → Option Res) (env : En) : Option Res := match c with
  | some true => f env
  | some false => g env
  | none => none
def asgR (i : Nat) (lk : List Nat) (o : Option RV) (env : En) : Option Res := match o with
  | some r => some (.nx ((after r lk env).set i r.sl))
  | none => none
def retRR (o : Option RV) : Option Res := match o with
  | some r => some (.rt r)
  | none => none
def endR : Option Res → Option RV
  | some (.nx _) => some (.v .none)
  | some (.rt r) => some r
  | _ => none
def revR : Option RV → Option RV
  | some x => match x.d with
    | .list xs => some (.l xs.reverse)
    | .tuple xs => some (.v (.tuple xs.reverse))
    | _ => none
  | none => none
@[simp] theorem revR_l {xs : List D} : revR (some (.l xs)) = some (.l xs.reverse) := rfl
@[simp] theorem revR_t {xs : List D} : revR (some (.v (.tuple xs))) = some (.v (.tuple xs.reverse)) := rfl
def attR (k f : Str) : Option RV → Option RV
  | some x => (attD k f x.d).map .v
  | none => none
def methR (k m : Str) (g : List D → Option RV) : Option RV → Option (List D) → Option RV
  | some x, some ds => if insOk k m x.d = true then g (x.d :: ds) else none
  | _, _ => none
def newR (k : Str) (ns : List Str) : Option RV → Option (List D) → Option RV
  | some _, some ds => if ds.length = ns.length then some (.v (insD k ns ds)) else none
  | _, _ => none
def exS (o : Option RV) (env : En) : Option Res := match o with
  | some _ => some (.nx env)
  | none => none
@[simp] theorem exS_s {r : RV} {env : En} : exS (some r) env = some (.nx env) := rfl
theorem attR_s {k f : Str} {d x : D} (h : attD k f d = some x) : attR k f (some (.v d)) = some (.v x) := by
  show (attD k f d).map RV.v = _
  rw [h]; rfl
theorem methR_s {k m : Str} {g : List D → Option RV} {d : D} {ds : List D} (h : insOk k m d = true) : methR k m g (some (.v d)) (some ds) = g (d :: ds) := by
  show (if insOk k m d = true then g (d :: ds) else none) = _
  rw [if_pos h]
def forR (f : D → En → Option Res) (its : Option (List D)) (env : En) : Option Res := match its with
  | some xs => forL f xs env
  | none => none
def srcR (k : SK) : Option (List D) → Option (List D)
  | some ds => srcs k ds
  | none => none
def compR (f : D → Option (Option D)) (its : Option (List D)) : Option RV := match its with
  | some xs => if xs.length ≤ LIM then lstR (compL f xs) else none
  | none => none
section
variable {F : FE} {env : En}
@[simp] theorem p_e_var : dnE F (.var i) env = rdv env i := rfl
@[simp] theorem p_e_lit : dnE F (.lit d) env = some (.v d) := rfl
@[simp] theorem p_e_bin : dnE F (.bin o a b) env = binR o (dnE F a env) (dnE F b env) := by
  show ((dnE F a env).bind fun x => (dnE F b env).bind fun y => o2 o x.d y.d) = _
  cases dnE F a env <;> cases dnE F b env <;> rfl
@[simp] theorem p_e_neg : dnE F (.neg a) env = negR (dnE F a env) := by
  show ((dnE F a env).bind _) = _
  cases dnE F a env with
  | none => rfl
  | some x => cases x with
    | l _ => rfl
    | v d => cases d <;> rfl
@[simp] theorem p_e_cmp : dnE F (.cmp o a b) env = bR (cmR o (dnE F a env) (dnE F b env)) := by
  show ((dnE F a env).bind fun x => (dnE F b env).bind fun y => (cm o x.d y.d).map _) = _
  cases dnE F a env <;> cases dnE F b env <;> try rfl
  rename_i x y
  show (cm o x.d y.d).map _ = bR (cm o x.d y.d)
  cases cm o x.d y.d <;> rfl
@[simp] theorem p_t_cmp : dnT F (.cmp o a b) env = cmR o (dnE F a env) (dnE F b env) := by
  show ((dnE F a env).bind fun x => (dnE F b env).bind fun y => cm o x.d y.d) = _
  cases dnE F a env <;> cases dnE F b env <;> rfl
@[simp] theorem p_e_and : dnE F (.and a b) env = andR (dnE F a env) (dnE F b env) := by
  show ((dnE F a env).bind fun x => (bl? x).bind fun k => if k = true then dnE F b env else some (.v (.bool false))) = _
  cases dnE F a env with
  | none => rfl
  | some x => cases x with
    | l _ => rfl
    | v d => cases d with
      | bool k => cases k <;> rfl
      | _ => rfl
@[simp] theorem p_e_or : dnE F (.or a b) env = orR (dnE F a env) (dnE F b env) := by
  show ((dnE F a env).bind fun x => (bl? x).bind fun k => if k = true then some (.v (.bool true)) else dnE F b env) = _
  cases dnE F a env with
  | none => rfl
  | some x => cases x with
    | l _ => rfl
    | v d => cases d with
      | bool k => cases k <;> rfl
      | _ => rfl
@[simp] theorem p_e_not : dnE F (.not a) env = bR (notB (truR (dnE F a env))) := by
  show ((dnE F a env).bind fun x => (truth x.d).map fun k => RV.v (.bool (!k))) = _
  cases dnE F a env with
  | none => rfl
  | some x =>
    show (truth x.d).map _ = bR (notB (truth x.d))
    cases truth x.d <;> rfl
@[simp] theorem p_e_ife : dnE F (.ife c a b) env = ifR (dnT F c env) (dnE F a env) (dnE F b env) := by
  show ((dnT F c env).bind fun k => if k = true then dnE F a env else dnE F b env) = _
  cases dnT F c env with
  | none => rfl
  | some k => cases k <;> rfl
@[simp] theorem p_e_tup : dnE F (.tup es) env = tupR (dnEs F es env) := by
  show (dnEs F es env).map _ = _
  cases dnEs F es env <;> rfl
@[simp] theorem p_e_lst : dnE F (.lst es) env = lstR (dnEs F es env) := by
  show (dnEs F es env).map _ = _
  cases dnEs F es env <;> rfl
@[simp] theorem p_e_ix : dnE F (.ix a i) env = ixR (dnE F a env) (dnE F i env) := by
  show ((dnE F a env).bind fun x => (dnE F i env).bind fun y => (item x.d y.d).map RV.v) = _
  cases dnE F a env <;> cases dnE F i env <;> try rfl
  rename_i x y
  show (item x.d y.d).map RV.v = (match item x.d y.d with | some d => some (RV.v d) | none => none)
  cases item x.d y.d <;> rfl
@[simp] theorem p_e_rev : dnE F (.rev a) env = revR (dnE F a env) := by
  show ((dnE F a env).bind _) = _
  cases dnE F a env <;> rfl
@[simp] theorem p_e_call : dnE F (.call f es) env = appR (F f) (dnEs F es env) := by
  show ((dnEs F es env).bind _) = _
  cases dnEs F es env <;> rfl
@[simp] theorem p_e_bi : dnE F (.bi f es) env = appR (bF f) (dnEs F es env) := by
  show ((dnEs F es env).bind _) = _
  cases dnEs F es env <;> rfl
@[simp] theorem p_e_isi : dnE F (.isi a t) env = bR (isiR t (dnE F a env)) := by
  show ((dnE F a env).bind fun x => (isTy t x.d).map _) = _
  cases dnE F a env with
  | none => rfl
  | some x =>
    show (isTy t x.d).map _ = bR (isTy t x.d)
    cases isTy t x.d <;> rfl
theorem comp_key {k : SK} (f : D → Option (Option D)) (o : Option (List D)) : (o.bind fun ds => (srcs k ds).bind fun its => if its.length ≤ LIM then (compL f its).map RV.l else none) = compR f (srcR k o) := by
  cases o with
  | none => rfl
  | some ds =>
    show (srcs k ds).bind _ = compR _ (srcs k ds)
    cases srcs k ds with
    | none => rfl
    | some its =>
      show (if its.length ≤ LIM then (compL _ its).map _ else none) = (if its.length ≤ LIM then lstR (compL _ its) else none)
      cases compL f its <;> rfl
def compF (F : FE) (elt : E) (t : Tg) (vars : List Nat) (cond : Option E) (env : En) (x : D) : Option (Option D) := (bind t x (wipeE env vars)).bind fun e2 =>
        (match cond with | none => some true | some c => dnT F c e2).bind fun k => if k = true then (dnE F elt e2).map fun (y : RV) => some y.d else some none
@[simp] theorem p_e_comp {elt : E} {t : Tg} {k : SK} {src : List E} {vars : List Nat} {cond : Option E} : dnE F (.comp elt t k src vars cond) env = compR (compF F elt t vars cond (demote env (lkCs src))) (srcR k (dnEs F src env)) := by
  cases cond with
  | none => exact comp_key (compF F elt t vars none (demote env (lkCs src))) (dnEs F src env)
  | some c => exact comp_key (compF F elt t vars (some c) (demote env (lkCs src))) (dnEs F src env)
def slenR (f : D → Option (Option D)) : Option (List D) → Option RV
  | none => none
  | some its => if its.length < 100000 then (compL f its).bind fun ys => (intsD ys).bind fun ns => if (dist ns).length ≤ 4000 then some (.v (.int (dist ns).length)) else none else none
@[simp] theorem p_e_slen {elt : E} {t : Tg} {k : SK} {src : List E} {vars : List Nat} : dnE F (.slen elt t k src vars) env = slenR (compF F elt t vars none (demote env (lkCs src))) (srcR k (dnEs F src env)) := by
  show ((dnEs F src env).bind fun ds => (srcs k ds).bind _) = _
  cases dnEs F src env with
  | none => rfl
  | some ds =>
    show (srcs k ds).bind _ = slenR _ (srcs k ds)
    cases srcs k ds <;> rfl
def cat2F (F : FE) (elt : E) (t : Tg) (t1 : Tg) (e1 : E) (vars vars1 : List Nat) (env : En) (x : D) : Option (List D) := (bind t x (wipeE env vars)).bind fun e2 => (dnE F e1 e2).bind fun z => (rngS [z.d]).bind fun its1 =>
  if its1.length ≤ LIM then compL (fun y => (bind t1 y (wipeE e2 vars1)).bind fun e3 => (dnE F elt e3).map fun (y : RV) => some y.d) its1 else none
def comp2R (f : D → Option (List D)) : Option (List D) → Option RV
  | none => none
  | some its => if its.length ≤ LIM then (catL f its).bind fun fin => if fin.length ≤ LIM then some (.l fin) else none else none
@[simp] theorem p_e_comp2 {elt : E} {t t1 : Tg} {k : SK} {src : List E} {e1 : E} {vars vars1 : List Nat} : dnE F (.comp2 elt t k src t1 e1 vars vars1) env = comp2R (cat2F F elt t t1 e1 vars vars1 (demote env (lkCs src))) (srcR k (dnEs F src env)) := by
  show ((dnEs F src env).bind fun ds => (srcs k ds).bind _) = _
  cases dnEs F src env with
  | none => rfl
  | some ds =>
    show (srcs k ds).bind _ = comp2R _ (srcs k ds)
    cases srcs k ds <;> rfl
@[simp] theorem p_e_att {k f : Str} : dnE F (.att k a f) env = attR k f (dnE F a env) := by
  show ((dnE F a env).bind _) = _
  cases dnE F a env <;> rfl
@[simp] theorem p_e_meth {k m : Str} {j : Nat} : dnE F (.meth k m j a es) env = methR k m (F j) (dnE F a env) (dnEs F es env) := by
  show ((dnE F a env).bind fun x => if insOk k m x.d = true then (dnEs F es env).bind fun ds => F j (x.d :: ds) else none) = _
  cases dnE F a env with
  | none => rfl
  | some x =>
    cases dnEs F es env with
    | none =>
      show (if insOk k m x.d = true then none else none) = none
      split <;> rfl
    | some ds => rfl
@[simp] theorem p_e_new {k : Str} {ns : List Str} {j : Nat} : dnE F (.new k ns j es) env = newR k ns (F j []) (dnEs F es env) := by
  show ((F j []).bind fun _ => (dnEs F es env).bind fun ds => if ds.length = ns.length then some (RV.v (insD k ns ds)) else none) = _
  cases F j [] <;> cases dnEs F es env <;> rfl
@[simp] theorem es_nil : dnEs F [] env = some [] := rfl
@[simp] theorem es_cons : dnEs F (e :: es) env = consR (dnE F e env) (dnEs F es env) := by
  show ((dnE F e env).bind fun x => (dnEs F es env).map _) = _
  cases dnE F e env <;> cases dnEs F es env <;> rfl
@[simp] theorem t_and : dnT F (.and a b) env = andB (dnT F a env) (dnT F b env) := by
  show ((dnT F a env).bind fun k => if k = true then dnT F b env else some false) = _
  cases dnT F a env with
  | none => rfl
  | some k => cases k <;> rfl
@[simp] theorem t_or : dnT F (.or a b) env = orB (dnT F a env) (dnT F b env) := by
  show ((dnT F a env).bind fun k => if k = true then some true else dnT F b env) = _
  cases dnT F a env with
  | none => rfl
  | some k => cases k <;> rfl
@[simp] theorem p_t_not : dnT F (.not a) env = notB (dnT F a env) := by
  show (dnT F a env).map _ = _
  cases dnT F a env <;> rfl
@[simp] theorem t_var : dnT F (.var i) env = truR (rdv env i) := by
  show (rdv env i).bind _ = _
  cases rdv env i <;> rfl
@[simp] theorem t_lit : dnT F (.lit d) env = truth d := rfl
@[simp] theorem t_call : dnT F (.call f es) env = truR (appR (F f) (dnEs F es env)) := by
  show ((dnEs F es env).bind fun ds => (F f ds).bind fun r => truth r.d) = _
  cases dnEs F es env with
  | none => rfl
  | some ds =>
    show (F f ds).bind _ = truR (F f ds)
    cases F f ds <;> rfl
@[simp] theorem t_bi : dnT F (.bi f es) env = truR (appR (bF f) (dnEs F es env)) := by
  show ((dnEs F es env).bind fun ds => (bF f ds).bind fun r => truth r.d) = _
  cases dnEs F es env with
  | none => rfl
  | some ds =>
    show (bF f ds).bind _ = truR (bF f ds)
    cases bF f ds <;> rfl
@[simp] theorem t_att {k f : Str} : dnT F (.att k a f) env = truR (attR k f (dnE F a env)) := by
  show ((dnE F a env).bind fun x => (attD k f x.d).bind truth) = _
  cases dnE F a env with
  | none => rfl
  | some x =>
    show (attD k f x.d).bind truth = truR ((attD k f x.d).map RV.v)
    cases attD k f x.d <;> rfl
@[simp] theorem t_meth {k m : Str} {j : Nat} : dnT F (.meth k m j a es) env = truR (methR k m (F j) (dnE F a env) (dnEs F es env)) := by
  show ((dnE F a env).bind fun x => if insOk k m x.d = true then (dnEs F es env).bind fun ds => (F j (x.d :: ds)).bind fun r => truth r.d else none) = _
  cases dnE F a env with
  | none => rfl
  | some x =>
    cases dnEs F es env with
    | none =>
      show (if insOk k m x.d = true then none else none) = none
      split <;> rfl
    | some ds =>
      show (if insOk k m x.d = true then (F j (x.d :: ds)).bind fun r => truth r.d else none) = truR (if insOk k m x.d = true then F j (x.d :: ds) else none)
      split
      · cases F j (x.d :: ds) <;> rfl
      · rfl
@[simp] theorem t_isi : dnT F (.isi a t) env = isiR t (dnE F a env) := by
  show ((dnE F a env).bind _) = _
  cases dnE F a env <;> rfl
@[simp] theorem t_ix : dnT F (.ix a i) env = truR (ixR (dnE F a env) (dnE F i env)) := by
  show ((dnE F a env).bind fun x => (dnE F i env).bind fun y => (item x.d y.d).bind truth) = _
  cases dnE F a env <;> cases dnE F i env <;> try rfl
  rename_i x y
  show (item x.d y.d).bind _ = truR (match item x.d y.d with | some d => some (.v d) | none => none)
  cases item x.d y.d <;> rfl
@[simp] theorem t_bin : dnT F (.bin o a b) env = truR (binR o (dnE F a env) (dnE F b env)) := by
  show ((dnE F a env).bind fun x => (dnE F b env).bind fun y => (o2 o x.d y.d).bind fun r => truth r.d) = _
  cases dnE F a env <;> cases dnE F b env <;> try rfl
  rename_i x y
  show (o2 o x.d y.d).bind _ = truR (o2 o x.d y.d)
  cases o2 o x.d y.d <;> rfl
def oR : Option (Option RV) → Option (Option Int)
  | none => some none
  | some (some r) => optI r.d
  | some none => none
@[simp] theorem oR_n : oR none = some none := rfl
@[simp] theorem oR_i {i : Int} : oR (some (some (.v (.int i)))) = some (some i) := rfl
def slR (x : Option RV) (l h : Option (Option Int)) : Option RV := match x, l, h with
  | some x, some l, some h => slice x.d l h
  | _, _, _ => none
@[simp] theorem slR_s {x : RV} {l h : Option Int} : slR (some x) (some l) (some h) = slice x.d l h := rfl
theorem sl_key {x : Option RV} {l h : Option (Option Int)} : (x.bind fun x => l.bind fun l => h.bind fun h => slice x.d l h) = slR x l h := by
  cases x <;> cases l <;> cases h <;> rfl
@[simp] theorem sl_00 {a : E} : dnE F (.sl a none none) env = slR (dnE F a env) (some none) (some none) := sl_key (x := dnE F a env) (l := some none) (h := some none)
@[simp] theorem sl_01 {a h : E} : dnE F (.sl a none (some h)) env = slR (dnE F a env) (some none) (oR (some (dnE F h env))) := by
  have e : (dnE F h env).bind (fun y => optI y.d) = oR (some (dnE F h env)) := by cases dnE F h env <;> rfl
  rw [← e]
  exact sl_key (x := dnE F a env) (l := some none) (h := (dnE F h env).bind fun y => optI y.d)
@[simp] theorem sl_10 {a l : E} : dnE F (.sl a (some l) none) env = slR (dnE F a env) (oR (some (dnE F l env))) (some none) := by
  have e : (dnE F l env).bind (fun y => optI y.d) = oR (some (dnE F l env)) := by cases dnE F l env <;> rfl
  rw [← e]
  exact sl_key (x := dnE F a env) (l := (dnE F l env).bind fun y => optI y.d) (h := some none)
@[simp] theorem sl_11 {a l h : E} : dnE F (.sl a (some l) (some h)) env = slR (dnE F a env) (oR (some (dnE F l env))) (oR (some (dnE F h env))) := by
  have e : (dnE F l env).bind (fun y => optI y.d) = oR (some (dnE F l env)) := by cases dnE F l env <;> rfl
  have e2 : (dnE F h env).bind (fun y => optI y.d) = oR (some (dnE F h env)) := by cases dnE F h env <;> rfl
  rw [← e, ← e2]
  exact sl_key (x := dnE F a env) (l := (dnE F l env).bind fun y => optI y.d) (h := (dnE F h env).bind fun y => optI y.d)
@[simp] theorem ss_nil' : dnSs F [] env = some (.nx env) := rfl
@[simp] theorem ss_cons' : dnSs F (s :: r) env = seqR (dnS F s env) (dnSs F r) := by
  show (dnS F s env).bind _ = _
  cases dnS F s env with
  | none => rfl
  | some q => cases q <;> rfl
@[simp] theorem s_asg' : dnS F (.asg i e) env = asgR i (lkE e) (dnE F e env) env := by
  show (dnE F e env).map _ = _
  cases dnE F e env <;> rfl
def retv : Nat → En → Option RV
  | 0, .own ds :: _ => some (.l ds)
  | 0, .v d :: _ => some (.v d)
  | i + 1, _ :: r => retv i r
  | _, _ => none
@[simp] theorem retv_o {ds : List D} {r : En} : retv 0 (.own ds :: r) = some (.l ds) := rfl
@[simp] theorem retv_v {d : D} {r : En} : retv 0 (.v d :: r) = some (.v d) := rfl
@[simp] theorem retv_s {i : Nat} {x : Sl} {r : En} : retv (i + 1) (x :: r) = retv i r := by cases x <;> rfl
theorem retv_eq : ∀ (i : Nat) (env : En), (rdv env i).map (retR (.var i) env) = retv i env
  | 0, [] => rfl
  | 0, .no :: _ => rfl
  | 0, .v _ :: _ => rfl
  | 0, .own _ :: _ => rfl
  | i + 1, [] => rfl
  | i + 1, x :: r => by
    rw [retv_s, ← retv_eq i r]
    rfl
@[simp] theorem s_retv' {i : Nat} : dnS F (.ret (.var i)) env = retRR (retv i env) := by
  rw [← retv_eq]
  show (rdv env i).map _ = _
  cases rdv env i <;> rfl
theorem s_ret' (h : ∀ r, retR e env r = r) : dnS F (.ret e) env = retRR (dnE F e env) := by
  show (dnE F e env).map _ = _
  cases dnE F e env with
  | none => rfl
  | some r => show some (Res.rt (retR e env r)) = _; rw [h]; rfl
@[simp] theorem s_ret1 : dnS F (.ret (.lit d)) env = some (.rt (.v d)) := rfl
@[simp] theorem s_ret2 : dnS F (.ret (.bin o a b)) env = retRR (dnE F (.bin o a b) env) := s_ret' fun _ => rfl
@[simp] theorem s_ret3 : dnS F (.ret (.neg a)) env = retRR (dnE F (.neg a) env) := s_ret' fun _ => rfl
@[simp] theorem s_ret4 : dnS F (.ret (.cmp o a b)) env = retRR (dnE F (.cmp o a b) env) := s_ret' fun _ => rfl
@[simp] theorem s_ret5 : dnS F (.ret (.chn o p a b c)) env = retRR (dnE F (.chn o p a b c) env) := s_ret' fun _ => rfl
@[simp] theorem s_ret6 : dnS F (.ret (.and a b)) env = retRR (dnE F (.and a b) env) := s_ret' fun _ => rfl
@[simp] theorem s_ret7 : dnS F (.ret (.or a b)) env = retRR (dnE F (.or a b) env) := s_ret' fun _ => rfl
@[simp] theorem s_ret8 : dnS F (.ret (.not a)) env = retRR (dnE F (.not a) env) := s_ret' fun _ => rfl
@[simp] theorem s_ret9 : dnS F (.ret (.ife c a b)) env = retRR (dnE F (.ife c a b) env) := s_ret' fun _ => rfl
@[simp] theorem s_ret10 : dnS F (.ret (.tup es)) env = retRR (dnE F (.tup es) env) := s_ret' fun _ => rfl
@[simp] theorem s_ret11 : dnS F (.ret (.lst es)) env = retRR (dnE F (.lst es) env) := s_ret' fun _ => rfl
@[simp] theorem s_ret12 : dnS F (.ret (.ix a i)) env = retRR (dnE F (.ix a i) env) := s_ret' fun _ => rfl
@[simp] theorem s_ret13 : dnS F (.ret (.sl a l h)) env = retRR (dnE F (.sl a l h) env) := s_ret' fun _ => rfl
@[simp] theorem s_ret14 : dnS F (.ret (.rev a)) env = retRR (dnE F (.rev a) env) := s_ret' fun _ => rfl
@[simp] theorem s_ret15 : dnS F (.ret (.call f es)) env = retRR (dnE F (.call f es) env) := s_ret' fun _ => rfl
@[simp] theorem s_ret16 : dnS F (.ret (.bi f es)) env = retRR (dnE F (.bi f es) env) := s_ret' fun _ => rfl
@[simp] theorem s_ret17 : dnS F (.ret (.isi a t)) env = retRR (dnE F (.isi a t) env) := s_ret' fun _ => rfl
@[simp] theorem s_ret18 : dnS F (.ret (.comp a t k s v c)) env = retRR (dnE F (.comp a t k s v c) env) := s_ret' fun _ => rfl
@[simp] theorem s_ret18a {t1 : Tg} {e1 : E} {w : List Nat} : dnS F (.ret (.comp2 a t k s t1 e1 v w)) env = retRR (dnE F (.comp2 a t k s t1 e1 v w) env) := s_ret' fun _ => rfl
@[simp] theorem s_ret18b : dnS F (.ret (.slen a t k s v)) env = retRR (dnE F (.slen a t k s v) env) := s_ret' fun _ => rfl
@[simp] theorem s_ret19 {k f : Str} : dnS F (.ret (.att k a f)) env = retRR (dnE F (.att k a f) env) := s_ret' fun _ => rfl
@[simp] theorem s_ret20 {k m : Str} {j : Nat} : dnS F (.ret (.meth k m j a es)) env = retRR (dnE F (.meth k m j a es) env) := s_ret' fun _ => rfl
@[simp] theorem s_ret21 {k : Str} {ns : List Str} {j : Nat} : dnS F (.ret (.new k ns j es)) env = retRR (dnE F (.new k ns j es) env) := s_ret' fun _ => rfl
@[simp] theorem s_ex' : dnS F (.ex e) env = exS (dnE F e env) env := by
  show (dnE F e env).map _ = _
  cases dnE F e env <;> rfl
@[simp] theorem s_nev' : dnS F .nev env = none := rfl
@[simp] theorem s_ite' : dnS F (.ite c a b) env = iteS (dnT F c env) (dnSs F a) (dnSs F b) env := by
  show ((dnT F c env).bind fun k => if k = true then dnSs F a env else dnSs F b env) = _
  cases dnT F c env with
  | none => rfl
  | some k => cases k <;> rfl
@[simp] theorem s_whl' : dnS F (.whl c b) env = whlL (dnT F c) (dnSs F b) WF env := rfl
@[simp] theorem s_brk' : dnS F .brk env = some (.bk env) := rfl
@[simp] theorem s_cnt' : dnS F .cnt env = some (.ct env) := rfl
@[simp] theorem s_pas' : dnS F .pas env = some (.nx env) := rfl
theorem callD_eq {d : Df} {ds : List D} : callD F d ds = endR (dnSs F d.body (start d.n ds)) := by
  show (dnSs F d.body (start d.n ds)).bind _ = _
  cases dnSs F d.body (start d.n ds) with
  | none => rfl
  | some q => cases q <;> rfl
@[simp] theorem binR_s : binR o (some x) (some y) = o2 o x.d y.d := rfl
@[simp] theorem cmR_s : cmR o (some x) (some y) = cm o x.d y.d := rfl
@[simp] theorem bR_s : bR (some b) = some (.v (.bool b)) := rfl
@[simp] theorem negR_s : negR (some (.v (.int i))) = some (.v (.int (-i))) := rfl
@[simp] theorem andR_t : andR (some (.v (.bool true))) b = b := rfl
@[simp] theorem andR_f : andR (some (.v (.bool false))) b = some (.v (.bool false)) := rfl
@[simp] theorem orR_t : orR (some (.v (.bool true))) b = some (.v (.bool true)) := rfl
@[simp] theorem orR_f : orR (some (.v (.bool false))) b = b := rfl
@[simp] theorem truR_s : truR (some x) = truth x.d := rfl
@[simp] theorem notB_s : notB (some b) = some (!b) := rfl
@[simp] theorem andB_t : andB (some true) b = b := rfl
@[simp] theorem andB_f : andB (some false) b = some false := rfl
@[simp] theorem orB_t : orB (some true) b = some true := rfl
@[simp] theorem orB_f : orB (some false) b = b := rfl
@[simp] theorem ifR_t {α : Type} {a b : Option α} : ifR (some true) a b = a := rfl
@[simp] theorem ifR_f {α : Type} {a b : Option α} : ifR (some false) a b = b := rfl
def idR : Option D → Option RV
  | some d => some (.v d)
  | none => none
@[simp] theorem idR_s {d : D} : idR (some d) = some (.v d) := rfl
@[simp] theorem ixR_s {x y : RV} : ixR (some x) (some y) = idR (item x.d y.d) := by
  show (match item x.d y.d with | some d => some (RV.v d) | none => none) = _
  cases item x.d y.d <;> rfl
@[simp] theorem consR_s : consR (some x) (some xs) = some (x.d :: xs) := rfl
@[simp] theorem tupR_s : tupR (some xs) = some (.v (.tuple xs)) := rfl
@[simp] theorem lstR_s : lstR (some xs) = some (.l xs) := rfl
@[simp] theorem appR_s : appR f (some xs) = f xs := rfl
@[simp] theorem isiR_s : isiR t (some x) = isTy t x.d := rfl
@[simp] theorem seqR_nx : seqR (some (.nx e)) k = k e := rfl
@[simp] theorem seqR_rt : seqR (some (.rt r)) k = some (.rt r) := rfl
@[simp] theorem seqR_bk : seqR (some (.bk e)) k = some (.bk e) := rfl
@[simp] theorem seqR_ct : seqR (some (.ct e)) k = some (.ct e) := rfl
@[simp] theorem iteS_t : iteS (some true) f g env = f env := rfl
@[simp] theorem iteS_f : iteS (some false) f g env = g env := rfl
@[simp] theorem asgR_s : asgR i lk (some r) env = some (.nx ((after r lk env).set i r.sl)) := rfl
@[simp] theorem retRR_s : retRR (some r) = some (.rt r) := rfl
@[simp] theorem endR_nx : endR (some (.nx e)) = some (.v .none) := rfl
@[simp] theorem endR_rt : endR (some (.rt r)) = some r := rfl
@[simp] theorem forR_s : forR f (some xs) env = forL f xs env := rfl
@[simp] theorem srcR_s : srcR k (some ds) = srcs k ds := rfl
theorem compR_s (h : xs.length ≤ LIM) : compR f (some xs) = lstR (compL f xs) := if_pos h
@[simp] theorem rv_v {d : D} : (RV.v d).d = d := rfl
@[simp] theorem rv_l {ds : List D} : (RV.l ds).d = .list ds := rfl
@[simp] theorem sl_v {d : D} : (RV.v d).sl = .v d := rfl
@[simp] theorem sl_l {ds : List D} : (RV.l ds).sl = .own ds := rfl
end
@[simp] theorem after_nil : after r [] env = env := rfl
theorem after_noL {r : RV} (h : r.noL = true) : after r l env = env := by
  unfold after
  split
  · rfl
  · rw [if_pos h]
@[simp] theorem after_int {i : Int} : after (.v (.int i)) l env = env := after_noL rfl
@[simp] theorem after_bool {b : Bool} : after (.v (.bool b)) l env = env := after_noL rfl
@[simp] theorem after_none : after (.v .none) l env = env := after_noL rfl
@[simp] theorem after_str {x : Str} : after (.v (.str x)) l env = env := after_noL rfl
@[simp] theorem rdv_0v {d : D} {r : En} : rdv (.v d :: r) 0 = some (.v d) := rfl
@[simp] theorem rdv_0o {ds : List D} {r : En} : rdv (.own ds :: r) 0 = some (.v (.list ds)) := rfl
@[simp] theorem rdv_s {x : Sl} {r : En} {i : Nat} : rdv (x :: r) (i + 1) = rdv r i := rfl
@[simp] theorem dem_nil {env : En} : demote env [] = env := rfl
@[simp] theorem bind_n {i : Nat} {d : D} {env : En} : Wi.bind (.n i) d env = some (env.set i (.v d)) := rfl
theorem noLs_ints : ∀ ns : List Int, noLs (iD ns) = true
  | [] => rfl
  | _ :: r => noLs_ints r
section
variable {a b c elt : E} {es src : List E} {i f : Nat} {d : D} {o p : O2} {k k' : Cm} {l h : Option E} {bf : B} {ty : Ty} {tg : Tg} {sk : SK} {vs : List Nat}
@[simp] theorem lkE0 : lkE (.var i) = [i] := rfl
@[simp] theorem lkC0 : lkC (.var i) = [] := rfl
@[simp] theorem lkE1 : lkE (.lit d) = [] := rfl
@[simp] theorem lkC1 : lkC (.lit d) = [] := rfl
@[simp] theorem lkE2 : lkE (.bin o a b) = lkC a ++ lkC b := rfl
@[simp] theorem lkC2 : lkC (.bin o a b) = lkC a ++ lkC b := rfl
@[simp] theorem lkE3 : lkE (.neg a) = [] := rfl
@[simp] theorem lkC3 : lkC (.neg a) = [] := rfl
@[simp] theorem lkE4 : lkE (.cmp k a b) = [] := rfl
@[simp] theorem lkC4 : lkC (.cmp k a b) = [] := rfl
@[simp] theorem lkE5 : lkE (.chn k k' a b c) = [] := rfl
@[simp] theorem lkC5 : lkC (.chn k k' a b c) = [] := rfl
@[simp] theorem lkE6 : lkE (.and a b) = lkE b := rfl
@[simp] theorem lkC6 : lkC (.and a b) = lkE b := rfl
@[simp] theorem lkE7 : lkE (.or a b) = lkE b := rfl
@[simp] theorem lkC7 : lkC (.or a b) = lkE b := rfl
@[simp] theorem lkE8 : lkE (.not a) = [] := rfl
@[simp] theorem lkC8 : lkC (.not a) = [] := rfl
@[simp] theorem lkE9 : lkE (.ife c a b) = lkE a ++ lkE b := rfl
@[simp] theorem lkC9 : lkC (.ife c a b) = lkE a ++ lkE b := rfl
@[simp] theorem lkE10 : lkE (.tup es) = lkEs es := rfl
@[simp] theorem lkC10 : lkC (.tup es) = lkEs es := rfl
@[simp] theorem lkE11 : lkE (.lst es) = lkEs es := rfl
@[simp] theorem lkC11 : lkC (.lst es) = lkEs es := rfl
@[simp] theorem lkE12 : lkE (.ix a b) = lkC a := rfl
@[simp] theorem lkC12 : lkC (.ix a b) = lkC a := rfl
@[simp] theorem lkE13 : lkE (.sl a l h) = lkC a := rfl
@[simp] theorem lkC13 : lkC (.sl a l h) = lkC a := rfl
@[simp] theorem lkE14 : lkE (.rev a) = lkC a := rfl
@[simp] theorem lkC14 : lkC (.rev a) = lkC a := rfl
@[simp] theorem lkE15 : lkE (.call f es) = lkEs es := rfl
@[simp] theorem lkC15 : lkC (.call f es) = lkEs es := rfl
@[simp] theorem lkE16 : lkE (.bi bf es) = lkCs es := rfl
@[simp] theorem lkC16 : lkC (.bi bf es) = lkCs es := rfl
@[simp] theorem lkE17 : lkE (.isi a ty) = [] := rfl
@[simp] theorem lkC17 : lkC (.isi a ty) = [] := rfl
@[simp] theorem lkE18 : lkE (.comp elt tg sk src vs l) = lkCs src ++ lkE elt := rfl
@[simp] theorem lkC18 : lkC (.comp elt tg sk src vs l) = lkCs src ++ lkE elt := rfl
@[simp] theorem lkE18a {t1 : Tg} {e1 : E} {w : List Nat} : lkE (.comp2 elt tg sk src t1 e1 vs w) = lkCs src ++ lkE elt := rfl
@[simp] theorem lkC18a {t1 : Tg} {e1 : E} {w : List Nat} : lkC (.comp2 elt tg sk src t1 e1 vs w) = lkCs src ++ lkE elt := rfl
@[simp] theorem lkE18b : lkE (.slen elt tg sk src vs) = [] := rfl
@[simp] theorem lkC18b : lkC (.slen elt tg sk src vs) = [] := rfl
@[simp] theorem lkE19 {k f : Str} : lkE (.att k a f) = lkC a := rfl
@[simp] theorem lkC19 {k f : Str} : lkC (.att k a f) = lkC a := rfl
@[simp] theorem lkE20 {k m : Str} {j : Nat} : lkE (.meth k m j a es) = lkE a ++ lkEs es := rfl
@[simp] theorem lkC20 {k m : Str} {j : Nat} : lkC (.meth k m j a es) = lkE a ++ lkEs es := rfl
@[simp] theorem lkE21 {k : Str} {ns : List Str} {j : Nat} : lkE (.new k ns j es) = lkEs es := rfl
@[simp] theorem lkC21 {k : Str} {ns : List Str} {j : Nat} : lkC (.new k ns j es) = lkEs es := rfl
@[simp] theorem lkEs0 : lkEs [] = [] := rfl
@[simp] theorem lkEs1 : lkEs (a :: es) = lkE a ++ lkEs es := rfl
@[simp] theorem lkCs0 : lkCs [] = [] := rfl
@[simp] theorem lkCs1 : lkCs (a :: es) = lkC a ++ lkCs es := rfl
end
def dem1 (i : Nat) (env : En) : En := match env[i]? with
  | some (.own ds) => env.set i (.v (.list ds))
  | _ => env
@[simp] theorem dem_cons {i : Nat} {r : List Nat} {env : En} : demote env (i :: r) = demote (dem1 i env) r := by
  show (match env[i]? with | some (.own ds) => demote (env.set i (.v (.list ds))) r | _ => demote env r) = demote (match env[i]? with | some (.own ds) => env.set i (.v (.list ds)) | _ => env) r
  cases env[i]? with
  | none => rfl
  | some s => cases s <;> rfl
@[simp] theorem dem1_0v {d : D} {r : En} : dem1 0 (.v d :: r) = .v d :: r := rfl
@[simp] theorem dem1_0n {r : En} : dem1 0 (.no :: r) = .no :: r := rfl
@[simp] theorem dem1_0o {ds : List D} {r : En} : dem1 0 (.own ds :: r) = .v (.list ds) :: r := rfl
@[simp] theorem dem1_s {i : Nat} {x : Sl} {r : En} : dem1 (i + 1) (x :: r) = x :: dem1 i r := by
  show (match (x :: r)[i + 1]? with | some (.own ds) => (x :: r).set (i + 1) (.v (.list ds)) | _ => x :: r) = x :: (match r[i]? with | some (.own ds) => r.set i (.v (.list ds)) | _ => r)
  rw [List.getElem?_cons_succ]
  cases r[i]? with
  | none => rfl
  | some s => cases s <;> rfl
@[simp] theorem noL_int {i : Int} : (RV.v (.int i)).noL = true := rfl
@[simp] theorem after_ins {k : Str} {ns : List Str} {ds : List D} {l : List Nat} {env : En} : after (.v (insD k ns ds)) l env = demote env l := by
  cases l <;> rfl
@[simp] theorem after_l0 {l : List Nat} {env : En} : after (.l []) l env = env := after_noL rfl
/-- a loop's body -/
def loopF (t : Tg) (F : FE) (b : List S) (x : D) (e : En) : Option Res := (Wi.bind t x e).bind (dnSs F b)
@[simp] theorem loopF_s {t : Tg} {F : FE} {b : List S} {x : D} {e : En} : loopF t F b x e = (Wi.bind t x e).bind (dnSs F b) := rfl
@[simp] theorem s_for' {F : FE} {env : En} {t : Tg} {k : SK} {src : List E} {b : List S} : dnS F (.for_ t k src b) env = forR (loopF t F b) (srcR k (dnEs F src env)) (demote env (lkEs src)) := by
  show ((dnEs F src env).bind fun ds => (srcs k ds).bind fun its => _) = _
  cases dnEs F src env with
  | none => rfl
  | some ds =>
    show (srcs k ds).bind _ = forR _ (srcs k ds) _
    cases srcs k ds <;> rfl
@[simp] theorem after_tints {ns : List Int} {l : List Nat} {env : En} : after (.v (.tuple (iD ns))) l env = env := after_noL (noLs_ints ns)
@[simp] theorem after_lints {ns : List Int} {l : List Nat} {env : En} : after (.l (iD ns)) l env = env := after_noL (noLs_ints ns)
@[simp] theorem after_t0 {l : List Nat} {env : En} : after (.v (.tuple [])) l env = env := after_noL rfl
@[simp] theorem after_t1 {a : Int} {l : List Nat} {env : En} : after (.v (.tuple [.int a])) l env = env := after_noL rfl
@[simp] theorem after_t2 {a b : Int} {l : List Nat} {env : En} : after (.v (.tuple [.int a, .int b])) l env = env := after_noL rfl
@[simp] theorem after_t3 {a b c : Int} {l : List Nat} {env : En} : after (.v (.tuple [.int a, .int b, .int c])) l env = env := after_noL rfl
@[simp] theorem after_tc {vs : List Int} {b c : Int} {l : List Nat} {env : En} : after (.v (.tuple [.tuple (iD vs), .int b, .int c])) l env = env := after_noL (by
  show (noLs (iD vs) && (true && (true && true))) = true
  rw [noLs_ints]; rfl)
section
variable {i j : Int}
@[simp] theorem o2_add : o2 .add (.int i) (.int j) = some (.v (.int (i + j))) := rfl
@[simp] theorem o2_sub : o2 .sub (.int i) (.int j) = some (.v (.int (i - j))) := rfl
theorem o2_mul (h : (-18446744073709551616 < i ∧ i < 18446744073709551616) ∨ (-18446744073709551616 < j ∧ j < 18446744073709551616)) : o2 .mul (.int i) (.int j) = some (.v (.int (i * j))) := by
  show (if mulOk i j = true then _ else none) = _
  refine if_pos ?_
  unfold mulOk
  rw [Bool.or_eq_true, decide_eq_true_eq, decide_eq_true_eq]
  exact h
theorem o2_fdiv (h : 0 < j ∧ j < 1073741824) : o2 .fdiv (.int i) (.int j) = some (.v (.int (i / j))) := if_pos h
theorem o2_mod (h : 0 < j) : o2 .mod (.int i) (.int j) = some (.v (.int (i % j))) := if_pos h
@[simp] theorem cm_lt : cm .lt (.int i) (.int j) = some (decide (i < j)) := rfl
@[simp] theorem cm_le : cm .le (.int i) (.int j) = some (decide (i ≤ j)) := rfl
@[simp] theorem cm_gt : cm .gt (.int i) (.int j) = some (decide (j < i)) := rfl
@[simp] theorem cm_ge : cm .ge (.int i) (.int j) = some (decide (j ≤ i)) := rfl
@[simp] theorem cm_is {d : D} : cm .is_ d .none = some (isN d) := rfl
@[simp] theorem cm_isb {a b : Bool} : cm .is_ (.bool a) (.bool b) = some (decide (a = b)) := rfl
@[simp] theorem cm_isnt {d : D} : cm .isnt d .none = some (!isN d) := rfl
@[simp] theorem isN_none : isN .none = true := rfl
@[simp] theorem isN_int : isN (.int i) = false := rfl
@[simp] theorem isN_bool {b : Bool} : isN (.bool b) = false := rfl
@[simp] theorem isN_tup {xs : List D} : isN (.tuple xs) = false := rfl
@[simp] theorem isN_lst {xs : List D} : isN (.list xs) = false := rfl
theorem eqI : eqD (.int i) (.int j) = some (decide (i = j)) := by
  unfold eqD
  rw [if_pos ⟨rfl, rfl⟩]
  show some (i == j) = _
  rfl
@[simp] theorem cm_eq : cm .eq (.int i) (.int j) = some (decide (i = j)) := eqI
@[simp] theorem cm_ne : cm .ne (.int i) (.int j) = some (!decide (i = j)) := by
  show (eqD (.int i) (.int j)).map _ = _
  rw [eqI]; rfl
@[simp] theorem truth_b {b : Bool} : truth (.bool b) = some b := rfl
@[simp] theorem truth_n : truth .none = some false := rfl
@[simp] theorem truth_i : truth (.int i) = some (i != 0) := rfl
theorem plc_nat {n : Nat} (h : 0 ≤ i) : plc n i = if i < n then some i.toNat else none := if_pos h
theorem getP {xs : List D} (h : 0 ≤ i) : ((plc xs.length i).bind fun k => xs[k]?) = xs[i.toNat]? := by
  rw [plc_nat h]
  split
  · rfl
  · rw [List.getElem?_eq_none (by omega)]; rfl
theorem item_l {xs : List D} (h : 0 ≤ i) : item (.list xs) (.int i) = nth xs i.toNat := getP h
theorem item_t {xs : List D} (h : 0 ≤ i) : item (.tuple xs) (.int i) = nth xs i.toNat := getP h
theorem item_f {xs : List D} (h : 0 ≤ i) : item (fz xs) (.int i) = nth xs i.toNat := getP h
theorem getN {xs : List D} (h : xs ≠ []) : ((plc xs.length (-1)).bind fun k => xs[k]?) = xs.getLast? := by
  have hl : 0 < xs.length := List.length_pos_iff.mpr h
  have : plc xs.length (-1) = some (xs.length - 1) := by
    unfold plc
    rw [if_neg (by omega), if_pos (by omega)]
    congr 1
    omega
  rw [this, List.getLast?_eq_getElem?]; rfl
theorem item_ln {xs : List D} (h : xs ≠ []) : item (.list xs) (.int (-1)) = xs.getLast? := getN h
theorem item_tn {xs : List D} (h : xs ≠ []) : item (.tuple xs) (.int (-1)) = xs.getLast? := getN h
@[simp] theorem b_lenf {xs : List D} : bF .len [fz xs] = some (.v (.int xs.length)) := rfl
@[simp] theorem b_lenl {xs : List D} : bF .len [.list xs] = some (.v (.int xs.length)) := rfl
@[simp] theorem b_lent {xs : List D} : bF .len [.tuple xs] = some (.v (.int xs.length)) := rfl
@[simp] theorem p_b_int {i : Int} : bF .int [.int i] = some (.v (.int i)) := rfl
@[simp] theorem iD_len (ns : List Int) : (iD ns).length = ns.length := List.length_map ..
@[simp] theorem iD_take {ns : List Int} {k : Nat} : (iD ns).take k = iD (ns.take k) := by unfold iD; rw [List.map_take]
@[simp] theorem iD_drop {ns : List Int} {k : Nat} : (iD ns).drop k = iD (ns.drop k) := by unfold iD; rw [List.map_drop]
@[simp] theorem iD_app {ns ms : List Int} : iD ns ++ iD ms = iD (ns ++ ms) := by unfold iD; rw [List.map_append]
@[simp] theorem iD_rev {ns : List Int} : (iD ns).reverse = iD ns.reverse := by unfold iD; rw [List.map_reverse]
@[simp] theorem iD_set {ns : List Int} {k : Nat} {z : Int} : (iD ns).set k (.int z) = iD (ns.set k z) := by unfold iD; rw [List.map_set]
theorem bnd_nat {n : Nat} {i : Int} (h : 0 ≤ i) : bnd n i = min i.toNat n := if_neg (by omega)
theorem cut_to {xs : List D} {j : Int} (h : 0 ≤ j) : cut xs none (some j) = xs.take j.toNat := by
  show (xs.drop 0).take (bnd xs.length j - 0) = _
  rw [bnd_nat h, List.drop_zero, Nat.sub_zero]
  rcases Nat.le_total j.toNat xs.length with q | q
  · rw [Nat.min_eq_left q]
  · rw [Nat.min_eq_right q, List.take_length, List.take_of_length_le q]
theorem cut_from {xs : List D} {i : Int} (h : 0 ≤ i) : cut xs (some i) none = xs.drop i.toNat := by
  show (xs.drop (bnd xs.length i)).take (xs.length - bnd xs.length i) = _
  rw [bnd_nat h]
  rcases Nat.le_total i.toNat xs.length with q | q
  · rw [Nat.min_eq_left q, List.take_of_length_le (by rw [List.length_drop]; exact Nat.le_refl _)]
  · rw [Nat.min_eq_right q, List.drop_length, List.drop_of_length_le q]; simp
theorem sl_l_to {xs : List D} {j : Int} (h : 0 ≤ j) : slice (.list xs) none (some j) = some (.l (xs.take j.toNat)) := by rw [← cut_to h]; rfl
theorem sl_l_from {xs : List D} {j : Int} (h : 0 ≤ j) : slice (.list xs) (some j) none = some (.l (xs.drop j.toNat)) := by rw [← cut_from h]; rfl
theorem add_t {xs ys : List D} (h : xs.length + ys.length ≤ 10000000) : o2 .add (.tuple xs) (.tuple ys) = some (.v (.tuple (xs ++ ys))) := if_pos h
theorem add_l {xs ys : List D} (h : xs.length + ys.length ≤ 10000000) : o2 .add (.list xs) (.list ys) = some (.l (xs ++ ys)) := if_pos h
@[simp] theorem iD_snoc (xs : List Int) (z : Int) : iD xs ++ [PyData.int z] = iD (xs ++ [z]) := by unfold iD; rw [List.map_append]; rfl
@[simp] theorem iD_last (xs : List Int) : (iD xs).getLast? = xs.getLast?.map PyData.int := List.getLast?_map ..
theorem iD_ne {xs : List Int} (h : xs ≠ []) : iD xs ≠ [] := fun z => h (List.map_eq_nil_iff.mp z)
theorem intsD_iD : ∀ ns : List Int, intsD (iD ns) = some ns
  | [] => rfl
  | x :: r => by show (intsD (iD r)).map (x :: ·) = _; rw [intsD_iD r]; rfl
@[simp] theorem b_mx2 {i j : Int} : bF .mx [.int i, .int j] = some (.v (.int (max i j))) := rfl
@[simp] theorem b_mn2 {i j : Int} : bF .mn [.int i, .int j] = some (.v (.int (min i j))) := rfl
@[simp] theorem b_suml {ns : List Int} : bF .sum [.list (iD ns)] = some (.v (.int ns.sum)) := by
  show (intsD (iD ns)).bind _ = _
  rw [intsD_iD]; rfl
@[simp] theorem b_sumt {ns : List Int} : bF .sum [.tuple (iD ns)] = some (.v (.int ns.sum)) := by
  show (intsD (iD ns)).bind _ = _
  rw [intsD_iD]; rfl
theorem b_mxl {ns : List Int} (h : ns ≠ []) : bF .mx [.list (iD ns)] = some (.v (.int (mxI ns))) := by
  show ((intsD (iD ns)).bind fun ns => if ns = [] then none else some (RV.v (.int (mxI ns)))) = _
  rw [intsD_iD, Option.bind_some, if_neg h]
@[simp] theorem b_sortl {ns : List Int} : bF .sorted [.list (iD ns)] = some (.l (iD (srtI ns))) := by
  have h : inF (fun ns => some (RV.l ((srtI ns).map PyData.int))) [.list (iD ns)] = some (.l (iD (srtI ns))) := by
    show (intsD (iD ns)).bind _ = _
    rw [intsD_iD]; rfl
  show orF _ _ _ = _
  unfold orF
  rw [h]
@[simp] theorem b_sortt {ns : List Int} : bF .sorted [.tuple (iD ns)] = some (.l (iD (srtI ns))) := by
  have h : inF (fun ns => some (RV.l ((srtI ns).map PyData.int))) [.tuple (iD ns)] = some (.l (iD (srtI ns))) := by
    show (intsD (iD ns)).bind _ = _
    rw [intsD_iD]; rfl
  show orF _ _ _ = _
  unfold orF
  rw [h]
@[simp] theorem b_tupl {xs : List D} : bF .tuple [.list xs] = some (.v (.tuple xs)) := rfl
@[simp] theorem b_tupt {xs : List D} : bF .tuple [.tuple xs] = some (.v (.tuple xs)) := rfl
@[simp] theorem b_lstl {xs : List D} : bF .list [.list xs] = some (.l xs) := rfl
@[simp] theorem b_lstt {xs : List D} : bF .list [.tuple xs] = some (.l xs) := rfl
@[simp] theorem isTy_int {t : Ty} : isTy t (.int i) = some (decide (t = .int)) := by cases t <;> rfl
@[simp] theorem isTy_none {t : Ty} : isTy t .none = some false := by cases t <;> rfl
@[simp] theorem isTy_tup {t : Ty} {xs : List D} : isTy t (.tuple xs) = some (decide (t = .tuple)) := by cases t <;> rfl
@[simp] theorem isTy_lst {t : Ty} {xs : List D} : isTy t (.list xs) = some (decide (t = .list)) := by cases t <;> rfl
@[simp] theorem isTy_bool {t : Ty} {b : Bool} : isTy t (.bool b) = some (decide (t = .bool) || decide (t = .int)) := by cases t <;> rfl
@[simp] theorem isTy_str {t : Ty} {b : Str} : isTy t (.str b) = some (decide (t = .str)) := by cases t <;> rfl
theorem rng1 (h : -4611686018427387904 < j ∧ j < 4611686018427387904) : srcs .rng [.int j] = some (rg 0 j.toNat) := if_pos (show j.natAbs < 2 ^ 62 by omega)
theorem rng2 (h : -4611686018427387904 < i ∧ i < 4611686018427387904) (h2 : -4611686018427387904 < j ∧ j < 4611686018427387904) : srcs .rng [.int i, .int j] = some (rg i (j - i).toNat) := if_pos (show i.natAbs < 2 ^ 62 ∧ j.natAbs < 2 ^ 62 by omega)
@[simp] theorem valt {xs : List D} : srcs .val [.tuple xs] = some xs := rfl
@[simp] theorem vall {xs : List D} : srcs .val [.list xs] = some xs := rfl
theorem rg_len {lo : Int} {n : Nat} : (rg lo n).length = n := by unfold rg; rw [List.length_map, List.length_range]
theorem p_rg_get {lo : Int} {n k : Nat} (h : k < n) : (rg lo n)[k]? = some (.int (lo + k)) := by
  unfold rg
  rw [List.getElem?_map, List.getElem?_range h]; rfl
end
def updO (g : List D → Option (List D)) : Nat → En → Option En
  | 0, .own ds :: r => (g ds).map fun ds' => .own ds' :: r
  | i + 1, x :: r => (updO g i r).map (x :: ·)
  | _, _ => none
@[simp] theorem updO_0 {g : List D → Option (List D)} {ds : List D} {r : En} : updO g 0 (.own ds :: r) = (g ds).map fun ds' => .own ds' :: r := rfl
@[simp] theorem updO_s {g : List D → Option (List D)} {i : Nat} {x : Sl} {r : En} : updO g (i + 1) (x :: r) = (updO g i r).map (x :: ·) := by cases i <;> cases x <;> rfl
theorem updO_eq {g : List D → Option (List D)} : ∀ (i : Nat) (env : En), updO g i env = (match env[i]? with
    | some (.own ds) => (g ds).map fun ds' => env.set i (.own ds')
    | _ => none)
  | 0, [] => rfl
  | 0, .own ds :: r => rfl
  | 0, .no :: r => rfl
  | 0, .v d :: r => rfl
  | i + 1, [] => rfl
  | i + 1, x :: r => by
    rw [updO_s, updO_eq i r, List.getElem?_cons_succ]
    cases r[i]? with
    | none => rfl
    | some s => cases s with
      | own ds =>
        show ((g ds).map _).map _ = (g ds).map _
        cases g ds <;> rfl
      | _ => rfl
def nxR : Option En → Option Res
  | some e => some (.nx e)
  | none => none
@[simp] theorem nxR_s {e : En} : nxR (some e) = some (.nx e) := rfl
def appG (d : D) (ds : List D) : Option (List D) := if ds.length < LIM then some (ds ++ [d]) else none
theorem appG_s {d : D} {ds : List D} (h : ds.length < 10000000) : appG d ds = some (ds ++ [d]) := if_pos h
def extG (xs ds : List D) : Option (List D) := if ds.length + xs.length ≤ LIM then some (ds ++ xs) else none
theorem extG_s {xs ds : List D} (h : ds.length + xs.length ≤ 10000000) : extG xs ds = some (ds ++ xs) := if_pos h
def setG (k : Int) (d : D) (ds : List D) : Option (List D) := (plc ds.length k).map fun q => ds.set q d
theorem setG_s {k : Int} {d : D} {ds : List D} (h : 0 ≤ k ∧ k < ds.length) : setG k d ds = some (ds.set k.toNat d) := by
  unfold setG
  rw [plc_nat h.1, if_pos h.2]; rfl
def appS (i : Nat) (lk : List Nat) (o : Option RV) (env : En) : Option Res := match o with
  | some r => nxR (updO (appG r.d) i (after r lk env))
  | none => none
@[simp] theorem appS_s {i : Nat} {lk : List Nat} {r : RV} {env : En} : appS i lk (some r) env = nxR (updO (appG r.d) i (after r lk env)) := rfl
def extS (i : Nat) (lk : List Nat) (o : Option RV) (env : En) : Option Res := match o with
  | some r => (match r.d with
    | .list xs => nxR (updO (extG xs) i (demote env lk))
    | _ => none)
  | none => none
@[simp] theorem extS_v {i : Nat} {lk : List Nat} {xs : List D} {env : En} : extS i lk (some (.v (.list xs))) env = nxR (updO (extG xs) i (demote env lk)) := rfl
@[simp] theorem extS_l {i : Nat} {lk : List Nat} {xs : List D} {env : En} : extS i lk (some (.l xs)) env = nxR (updO (extG xs) i (demote env lk)) := rfl
def setS (i : Nat) (lk : List Nat) (o k : Option RV) (env : En) : Option Res := match o, k with
  | some r, some y => (match y.d with
    | .int k => nxR (updO (setG k r.d) i (after r lk env))
    | _ => none)
  | _, _ => none
@[simp] theorem setS_s {i : Nat} {lk : List Nat} {r : RV} {k : Int} {env : En} : setS i lk (some r) (some (.v (.int k))) env = nxR (updO (setG k r.d) i (after r lk env)) := rfl
section
variable {F : FE} {env : En} {i : Nat} {e j : E}
@[simp] theorem s_app' : dnS F (.app i e) env = appS i (lkE e) (dnE F e env) env := by
  show (dnE F e env).bind _ = _
  cases dnE F e env with
  | none => rfl
  | some r =>
    show (match (after r (lkE e) env)[i]? with | some (.own ds) => if ds.length < LIM then some (.nx ((after r (lkE e) env).set i (.own (ds ++ [r.d])))) else none | _ => none) = nxR (updO (appG r.d) i (after r (lkE e) env))
    rw [updO_eq]
    generalize after r (lkE e) env = en
    cases h : en[i]? with
    | none => rfl
    | some s => cases s with
      | own ds =>
        show (if ds.length < LIM then _ else _) = nxR (Option.map _ (appG r.d ds))
        unfold appG
        split <;> rfl
      | _ => rfl
@[simp] theorem s_ext' : dnS F (.ext i e) env = extS i (lkC e) (dnE F e env) env := by
  show (dnE F e env).bind _ = _
  cases dnE F e env with
  | none => rfl
  | some r =>
    show (match (demote env (lkC e))[i]?, r.d with | some (.own ds), .list xs => if ds.length + xs.length ≤ LIM then some (.nx ((demote env (lkC e)).set i (.own (ds ++ xs)))) else none | _, _ => none) = (match r.d with | .list xs => nxR (updO (extG xs) i (demote env (lkC e))) | _ => none)
    generalize demote env (lkC e) = en
    generalize r.d = d
    cases d with
    | list xs =>
      show _ = nxR (updO (extG xs) i en)
      rw [updO_eq]
      cases h : en[i]? with
      | none => rfl
      | some s => cases s with
        | own ds =>
          show (if ds.length + xs.length ≤ LIM then _ else _) = nxR (Option.map _ (extG xs ds))
          unfold extG
          split <;> rfl
        | _ => rfl
    | _ =>
      cases h : en[i]? with
      | none => rfl
      | some s => cases s <;> rfl
@[simp] theorem s_set' : dnS F (.seti i j e) env = setS i (lkE e) (dnE F e env) (dnE F j env) env := by
  show ((dnE F e env).bind fun r => (dnE F j env).bind _) = _
  cases dnE F e env with
  | none => rfl
  | some r =>
    cases dnE F j env with
    | none => rfl
    | some y =>
      show (match (after r (lkE e) env)[i]?, y.d with | some (.own ds), .int k => (plc ds.length k).map fun q => .nx ((after r (lkE e) env).set i (.own (ds.set q r.d))) | _, _ => none) = (match y.d with | .int k => nxR (updO (setG k r.d) i (after r (lkE e) env)) | _ => none)
      generalize after r (lkE e) env = en
      generalize y.d = d
      cases d with
      | int k =>
        show _ = nxR (updO (setG k r.d) i en)
        rw [updO_eq]
        cases h : en[i]? with
        | none => rfl
        | some s => cases s with
          | own ds =>
            show (plc ds.length k).map _ = nxR (((plc ds.length k).map _).map _)
            cases plc ds.length k <;> rfl
          | _ => rfl
      | _ =>
        cases h : en[i]? with
        | none => rfl
        | some s => cases s <;> rfl
def unpR (ts : List Tg) (lk : List Nat) (o : Option RV) (env : En) : Option Res := match o with
  | some r => (match r.d with
    | .tuple ds => nxR (binds ts ds (after r lk env))
    | _ => none)
  | none => none
@[simp] theorem unpR_s {ts : List Tg} {lk : List Nat} {ds : List D} : unpR ts lk (some (.v (.tuple ds))) env = nxR (binds ts ds (after (.v (.tuple ds)) lk env)) := rfl
@[simp] theorem s_unp' {ts : List Tg} : dnS F (.unp ts e) env = unpR ts (lkC e) (dnE F e env) env := by
  show (dnE F e env).bind _ = _
  cases dnE F e env with
  | none => rfl
  | some r =>
    show (match r.d with | .tuple ds => (binds ts ds (after r (lkC e) env)).map .nx | _ => none) = (match r.d with | .tuple ds => nxR (binds ts ds (after r (lkC e) env)) | _ => none)
    cases r.d with
    | tuple ds =>
      show (binds ts ds (after r (lkC e) env)).map _ = nxR (binds ts ds (after r (lkC e) env))
      cases binds ts ds (after r (lkC e) env) <;> rfl
    | _ => rfl
def parR (is : List Nat) (lk : List Nat) (o : Option (List D)) (env : En) : Option Res := match o with
  | some ds => nxR (binds (is.map .n) ds (after (.l ds) lk env))
  | none => none
@[simp] theorem parR_s {is : List Nat} {lk : List Nat} {ds : List D} : parR is lk (some ds) env = nxR (binds (is.map .n) ds (after (.l ds) lk env)) := rfl
@[simp] theorem s_par' {is : List Nat} {es : List E} : dnS F (.par is es) env = parR is (lkEs es) (dnEs F es env) env := by
  show (dnEs F es env).bind _ = _
  cases dnEs F es env with
  | none => rfl
  | some ds =>
    show (binds (is.map .n) ds (after (.l ds) (lkEs es) env)).map _ = nxR (binds (is.map .n) ds (after (.l ds) (lkEs es) env))
    cases binds (is.map .n) ds (after (.l ds) (lkEs es) env) <;> rfl
def augR (i : Nat) (o : O2) (a b : Option RV) (env : En) : Option Res := match a, b with
  | some (.v (.int a)), some (.v (.int b)) => (match o2 o (.int a) (.int b) with
    | some r => some (.nx (env.set i r.sl))
    | none => none)
  | _, _ => none
theorem augR_s {o : O2} {a b : Int} : augR i o (some (.v (.int a))) (some (.v (.int b))) env = (o2 o (.int a) (.int b)).map fun r => Res.nx (env.set i r.sl) := by
  show (match o2 o (.int a) (.int b) with | some r => some (Res.nx (env.set i r.sl)) | none => none) = _
  cases o2 o (.int a) (.int b) <;> rfl
@[simp] theorem s_aug' {o : O2} : dnS F (.aug i o e) env = augR i o (rdv env i) (dnE F e env) env := by
  show ((rdv env i).bind fun x => (dnE F e env).bind fun y => match x.d, y.d with | .int a, .int b => (o2 o (.int a) (.int b)).map fun r => Res.nx (env.set i r.sl) | _, _ => none) = _
  cases rdv env i with
  | none => rfl
  | some x =>
    cases dnE F e env with
    | none =>
      cases x with
      | l _ => rfl
      | v d => cases d <;> rfl
    | some y =>
      cases x with
      | l _ => rfl
      | v d =>
        cases d with
        | int a =>
          cases y with
          | l _ => rfl
          | v d2 =>
            cases d2 with
            | int b => rw [augR_s]; rfl
            | _ => rfl
        | _ => rfl
end
@[simp] theorem binds_nil {env : En} : binds [] [] env = some env := rfl
@[simp] theorem binds_cons {t : Tg} {ts : List Tg} {d : D} {ds : List D} {env : En} : binds (t :: ts) (d :: ds) env = (Wi.bind t d env).bind (binds ts ds) := rfl
@[simp] theorem bind_t {ts : List Tg} {ds : List D} {env : En} : Wi.bind (.t ts) (.tuple ds) env = binds ts ds env := rfl
theorem o2_pow {i j : Int} (h : 0 ≤ j ∧ j ≤ 1000000) (h2 : -18446744073709551616 < i ∧ i < 18446744073709551616) : o2 .pow (.int i) (.int j) = some (.v (.int (i ^ j.toNat))) := if_pos ⟨h.1, h.2, by omega⟩
/-- N: it goes on; R: it returns; B: break; C: continue -/
def Stp (N : En → Prop) (R : RV → Prop) (B C : En → Prop) (o : Option Res) : Prop := ∃ q, o = some q ∧ match q with
  | .nx e => N e
  | .rt r => R r
  | .bk e => B e
  | .ct e => C e
/-- a call returns -/
def Rets (o : Option RV) (Q : RV → Prop) : Prop := ∃ r, o = some r ∧ Q r
section
variable {N : En → Prop} {R : RV → Prop} {B C : En → Prop}
theorem stp_nx {e : En} : Stp N R B C (some (.nx e)) ↔ N e := ⟨fun ⟨_, h, q⟩ => by cases h; exact q, fun h => ⟨_, rfl, h⟩⟩
theorem stp_rt {r : RV} : Stp N R B C (some (.rt r)) ↔ R r := ⟨fun ⟨_, h, q⟩ => by cases h; exact q, fun h => ⟨_, rfl, h⟩⟩
theorem stp_bk {e : En} : Stp N R B C (some (.bk e)) ↔ B e := ⟨fun ⟨_, h, q⟩ => by cases h; exact q, fun h => ⟨_, rfl, h⟩⟩
theorem Stp.mono {N' : En → Prop} {R' : RV → Prop} {B' C' : En → Prop} {o : Option Res} (h : Stp N R B C o) (hN : ∀ e, N e → N' e) (hR : ∀ r, R r → R' r) (hB : ∀ e, B e → B' e) (hC : ∀ e, C e → C' e) : Stp N' R' B' C' o := by
  obtain ⟨q, e, h⟩ := h
  refine ⟨q, e, ?_⟩
  cases q with
  | nx e => exact hN _ h
  | rt r => exact hR _ h
  | bk e => exact hB _ h
  | ct e => exact hC _ h
theorem stp_seq {o : Option Res} {k : En → Option Res} (h : Stp (fun e => Stp N R B C (k e)) R B C o) : Stp N R B C (seqR o k) := by
  obtain ⟨q, rfl, h⟩ := h
  cases q with
  | nx e => exact h
  | rt r => exact ⟨_, rfl, h⟩
  | bk e => exact ⟨_, rfl, h⟩
  | ct e => exact ⟨_, rfl, h⟩
theorem rets_of {F : FE} {d : Df} {ds : List D} {Q : RV → Prop} (h : Stp (fun _ => Q (.v .none)) Q (fun _ => False) (fun _ => False) (dnSs F d.body (start d.n ds))) : Rets (callD F d ds) Q := by
  rw [callD_eq]
  obtain ⟨q, e, h⟩ := h
  rw [e]
  cases q with
  | nx e => exact ⟨_, rfl, h⟩
  | rt r => exact ⟨_, rfl, h⟩
  | bk e => exact h.elim
  | ct e => exact h.elim
theorem rets_f {F : FE} {d : Df} {ds : List D} {Q : RV → Prop} (h : Stp (fun _ => False) Q (fun _ => False) (fun _ => False) (dnSs F d.body (start d.n ds))) : Rets (callD F d ds) Q :=
  rets_of (h.mono (fun _ h => h.elim) (fun _ h => h) (fun _ h => h) fun _ h => h)
theorem Rets.eq {o : Option RV} {r : RV} (h : Rets o (· = r)) : o = some r := by
  obtain ⟨_, e, rfl⟩ := h; exact e
theorem stp_forL {f : D → En → Option Res} {Z : En → Prop} : ∀ (xs : List D) (I : Nat → En → Prop) (env : En), I 0 env → (∀ k x e, xs[k]? = some x → I k e → Stp (I (k + 1)) R Z (I (k + 1)) (f x e)) → (∀ e, I xs.length e → Z e) → Stp Z R (fun _ => False) (fun _ => False) (forL f xs env)
  | [], I, env, h0, _, hB => ⟨_, rfl, hB env h0⟩
  | x :: r, I, env, h0, h, hB => by
    obtain ⟨q, e1, e2⟩ := h 0 x env rfl h0
    have tail : ∀ e, I 1 e → Stp Z R (fun _ => False) (fun _ => False) (forL f r e) := fun e he => stp_forL r (fun k => I (k + 1)) e he (fun k y e2 hk => h (k + 1) y e2 (by simpa using hk)) hB
    rw [forL, e1]
    cases q with
    | nx e => exact tail e e2
    | ct e => exact tail e e2
    | rt v => exact ⟨_, rfl, e2⟩
    | bk e => exact ⟨_, rfl, e2⟩
/-- a for, and what comes behind it -/
theorem stp_for {f : D → En → Option Res} {k' : En → Option Res} {xs : List D} {env : En} (I : Nat → En → Prop) (h0 : I 0 env) (h : ∀ k x e, xs[k]? = some x → I k e → Stp (I (k + 1)) R (fun e => Stp N R B C (k' e)) (I (k + 1)) (f x e))
    (fin : ∀ e, I xs.length e → Stp N R B C (k' e)) : Stp N R B C (seqR (forL f xs env) k') :=
  stp_seq ((stp_forL xs I env h0 h fin).mono (fun _ h => h) (fun _ h => h) (fun _ h => h.elim) fun _ h => h.elim)
/-- .. over lo, lo + 1, .. -/
theorem stp_rg {f : D → En → Option Res} {k' : En → Option Res} {lo : Int} {n : Nat} {env : En} (I : Nat → En → Prop) (h0 : I 0 env) (h : ∀ (k : Nat) e, k < n → I k e → Stp (I (k + 1)) R (fun e => Stp N R B C (k' e)) (I (k + 1)) (f (.int (lo + k)) e))
    (fin : ∀ e, I n e → Stp N R B C (k' e)) : Stp N R B C (seqR (forL f (rg lo n) env) k') := by
  refine stp_for I h0 (fun k x e hk hi => ?_) (by rw [rg_len]; exact fin)
  have hl : k < n := by
    have := (List.getElem?_eq_some_iff.mp hk).1
    rw [rg_len] at this; exact this
  rw [p_rg_get hl] at hk
  cases hk
  exact h k e hl hi
/-- .. their number told otherwise -/
theorem stp_rgn {f : D → En → Option Res} {k' : En → Option Res} {lo : Int} {n : Nat} {env : En} (n' : Nat) (I : Nat → En → Prop) (hn : n = n') (h0 : I 0 env) (h : ∀ (k : Nat) e, k < n' → I k e → Stp (I (k + 1)) R (fun e => Stp N R B C (k' e)) (I (k + 1)) (f (.int (lo + k)) e))
    (fin : ∀ e, I n' e → Stp N R B C (k' e)) : Stp N R B C (seqR (forL f (rg lo n) env) k') := by
  subst hn
  exact stp_rg I h0 h fin
/-- .. with one condition behind the loop -/
theorem stp_rgz {f : D → En → Option Res} {k' : En → Option Res} {lo : Int} {n : Nat} {env : En} (n' : Nat) (I : Nat → En → Prop) (Z : En → Prop) (hn : n = n') (h0 : I 0 env) (h : ∀ (k : Nat) e, k < n' → I k e → Stp (I (k + 1)) R Z (I (k + 1)) (f (.int (lo + k)) e))
    (fin : ∀ e, I n' e → Z e) (cont : ∀ e, Z e → Stp N R B C (k' e)) : Stp N R B C (seqR (forL f (rg lo n) env) k') :=
  stp_rgn n' I hn h0 (fun k e hk hi => (h k e hk hi).mono (fun _ h => h) (fun _ h => h) cont fun _ h => h) fun e hi => cont e (fin e hi)
end
theorem compL_map {f : D → Option (Option D)} {g : D → D} : ∀ (xs : List D), (∀ x ∈ xs, f x = some (some (g x))) → compL f xs = some (xs.map g)
  | [], _ => rfl
  | x :: r, h => by
    rw [compL, h x List.mem_cons_self, compL_map r fun y hy => h y (List.mem_cons_of_mem _ hy)]; rfl
theorem compL_rg {f : D → Option (Option D)} {g : Nat → D} (lo : Int) (n : Nat) (h : ∀ k : Nat, k < n → f (.int (lo + k)) = some (some (g k))) : compL f (rg lo n) = some ((List.range n).map g) := by
  have gen : ∀ (ks : List Nat), (∀ k ∈ ks, k < n) → compL f (ks.map fun (k : Nat) => PyData.int (lo + (k : Int))) = some (ks.map g) := by
    intro ks
    induction ks with
    | nil => intro _; rfl
    | cons k r ih =>
      intro hk
      rw [List.map_cons, compL, h k (hk k List.mem_cons_self), ih fun j hj => hk j (List.mem_cons_of_mem _ hj)]; rfl
  exact gen _ fun k hk => List.mem_range.mp hk
theorem comp_rg {F : FE} {elt : E} {t : Tg} {vars : List Nat} {cond : Option E} {env : En} {lo : Int} {n : Nat} (g : Nat → D) (hn : n ≤ 10000000) (h : ∀ k : Nat, k < n → compF F elt t vars cond env (.int (lo + k)) = some (some (g k))) :
    compR (compF F elt t vars cond env) (some (rg lo n)) = some (.l ((List.range n).map g)) := by
  rw [compR_s (by rw [rg_len]; exact hn), compL_rg lo n h]; rfl
theorem comp_map {F : FE} {elt : E} {t : Tg} {vars : List Nat} {cond : Option E} {env : En} {xs : List D} (g : D → D) (hn : xs.length ≤ 10000000) (h : ∀ x ∈ xs, compF F elt t vars cond env x = some (some (g x))) :
    compR (compF F elt t vars cond env) (some xs) = some (.l (xs.map g)) := by
  rw [compR_s hn, compL_map xs h]; rfl
@[simp] theorem compF_n {F : FE} {elt : E} {t : Tg} {vars : List Nat} {env : En} {x : D} : compF F elt t vars none env x = (Wi.bind t x (wipeE env vars)).bind fun e2 => (dnE F elt e2).map fun (y : RV) => some y.d := rfl
@[simp] theorem wipe_nil {env : En} : wipeE env [] = env := rfl
@[simp] theorem wipe_cons {env : En} {v : Nat} {vs : List Nat} : wipeE env (v :: vs) = (wipeE env vs).set v .no := rfl
end Wp

namespace Wp
open PySem Wi
def m0 : Df := ⟨6, [.asg 2 (.lit (.int 0)), .ite (.cmp .gt (.bi .len [(.var 0)]) (.lit (.int 0))) [.asg 2 (.ix (.var 0) (.bin .mod (.var 1) (.bi .len [(.var 0)])))] [], .asg 3 (.bin .mod (.bi .int [(.bin .add (.bin .add (.bin .mul (.var 2) (.lit (.int 48271))) (.bin .mul (.var 1) (.lit (.int 69621)))) (.lit (.int 8191)))]) (.lit (.int 2147483647))), .asg 4 (.bin .mod (.bi .int [(.bin .add (.bin .add (.bin .mul (.var 3) (.var 3)) (.bin .fdiv (.var 3) (.lit (.int 7)))) (.bin .mul (.var 1) (.lit (.int 16807))))]) (.lit (.int 2147483629))), .asg 5 (.bin .mod (.bi .int [(.bin .add (.bin .add (.bin .mul (.var 4) (.var 4)) (.bin .fdiv (.var 4) (.lit (.int 11)))) (.lit (.int 40692)))]) (.lit (.int 2147483563))), .ret (.bin .mod (.bin .fdiv (.var 5) (.lit (.int 5))) (.lit (.int 1000003)))]⟩
theorem m0_ok {F : FE} (ns : List Int) (k : Int) : ∃ z, callD F m0 [fz (iD ns), .int k] = some (.v (.int z)) ∧ 0 ≤ z ∧ z < 1000003 := by
  rw [callD_eq]
  unfold m0 Wi.start
  by_cases hn : ns = []
  · subst hn
    simp (disch := omega) [o2_mul, o2_fdiv, o2_mod]
    omega
  · have hl : 0 < ns.length := List.length_pos_iff.mpr hn
    have h1 : 0 ≤ k % (ns.length : Int) := Int.emod_nonneg _ (by omega)
    have h2 : k % (ns.length : Int) < ns.length := Int.emod_lt_of_pos _ (by omega)
    have h3 := nth_some (xs := ns) (k := (k % (ns.length : Int)).toNat) (by omega)
    simp (disch := omega) [o2_mul, o2_fdiv, o2_mod, hl, item_f, h3]
    omega
def m1 : Df := ⟨5, [.asg 2 (.lit (.int 0)), .ite (.and (.cmp .gt (.bi .len [(.var 0)]) (.lit (.int 0))) (.cmp .ge (.ix (.var 0) (.lit (.int 0))) (.bin .pow (.lit (.int 10)) (.lit (.int 18))))) [.asg 2 (.ix (.var 0) (.lit (.int 0)))] [], .asg 3 (.lst []), .for_ (.n 4) .rng [(.var 1)] [.ite (.cmp .gt (.var 2) (.lit (.int 0))) [.app 3 (.bin .mod (.bi .int [(.var 2)]) (.lit (.int 1000))), .asg 2 (.bin .fdiv (.var 2) (.lit (.int 1000)))] [.app 3 (.call 0 [(.var 0), (.var 4)])]], .ret (.var 3)]⟩
def m2 : Df := ⟨1, [.ret (.and (.isi (.var 0) .int) (.not (.isi (.var 0) .bool)))]⟩
def m3 : Df := ⟨3, [.ite (.cmp .is_ (.var 1) (.lit .none)) [.ret (.cmp .is_ (.var 0) (.lit .none))] [], .ite (.isi (.var 1) .bool) [.ret (.and (.isi (.var 0) .bool) (.cmp .eq (.var 0) (.var 1)))] [], .ite (.isi (.var 1) .tuple) [.ite (.or (.not (.isi (.var 0) .tuple)) (.cmp .ne (.bi .len [(.var 0)]) (.bi .len [(.var 1)]))) [.ret (.lit (.bool false))] [], .ret (.bi .all [(.comp (.call 3 [(.ix (.var 0) (.var 2)), (.ix (.var 1) (.var 2))]) (.n 2) .rng [(.bi .len [(.var 1)])] [2] none)])] [], .ite (.isi (.var 1) .str) [.ret (.and (.isi (.var 0) .str) (.cmp .eq (.var 0) (.var 1)))] [], .ret (.and (.call 2 [(.var 0)]) (.cmp .eq (.var 0) (.var 1)))]⟩
def Cells (xs : List Int) : Prop := ∀ x ∈ xs, 0 ≤ x ∧ x < 1000003
theorem cells_snoc {xs : List Int} {z : Int} (h : Cells xs) (h1 : 0 ≤ z) (h2 : z < 1000003) : Cells (xs ++ [z]) := fun x hx => by
  rcases List.mem_append.mp hx with hx | hx
  · exact h x hx
  · rw [List.mem_singleton.mp hx]; exact ⟨h1, h2⟩
theorem m1_ok {F : FE} (ns : List Int) (many : Nat) (hm : many ≤ 1000) (h0 : ∀ k : Int, ∃ z, F 0 [fz (iD ns), .int k] = some (.v (.int z)) ∧ 0 ≤ z ∧ z < 1000003) :
    ∃ row, callD F m1 [fz (iD ns), .int many] = some (.l (iD row)) ∧ row.length = many ∧ Cells row := by
  suffices h : Rets (callD F m1 [fz (iD ns), .int many]) fun r => ∃ row, r = .l (iD row) ∧ row.length = many ∧ Cells row by
    obtain ⟨_, e, row, rfl, h⟩ := h
    exact ⟨row, e, h⟩
  refine rets_f ?_
  unfold m1 Wi.start
  have loop : ∀ b : Int, Stp (fun _ => False) (fun r => ∃ row, r = .l (iD row) ∧ row.length = many ∧ Cells row) (fun _ => False) (fun _ => False) (dnSs F (m1.body.drop 2) [.v (fz (iD ns)), .v (.int many), .v (.int b), .no, .no]) := by
    intro b
    unfold m1
    conv => arg 5; simp (disch := omega) [rng1]
    refine stp_rg (fun k e => ∃ b row s, e = [.v (fz (iD ns)), .v (.int many), .v (.int b), .own (iD row), s] ∧ row.length = k ∧ Cells row) ?_ ?_ ?_
    · exact ⟨b, [], .no, rfl, rfl, fun _ h => by cases h⟩
    · rintro k e hk ⟨b, row, s, rfl, hr, hc⟩
      by_cases hb : 0 < b
      · conv => arg 5; simp (disch := first | omega | (simp; omega)) [hb, o2_mod, o2_fdiv, appG_s]
        exact stp_nx.mpr ⟨_, _, _, rfl, by simp [hr], cells_snoc hc (by omega) (by omega)⟩
      · obtain ⟨z, hz, z1, z2⟩ := h0 k
        conv => arg 5; simp (disch := first | omega | (simp; omega)) [hb, appG_s, hz]
        exact stp_nx.mpr ⟨_, _, _, rfl, by simp [hr], cells_snoc hc z1 z2⟩
    · rintro e ⟨b, row, s, rfl, hr, hc⟩
      conv => arg 5; simp
      exact stp_rt.mpr ⟨row, rfl, hr, hc⟩
  unfold m1 at loop
  by_cases hn : ns = []
  · subst hn
    have := loop 0
    conv at this => arg 5; simp
    conv => arg 5; simp
    exact this
  · obtain ⟨x, r, rfl⟩ := List.exists_cons_of_ne_nil hn
    by_cases hx : 1000000000000000000 ≤ x
    · have := loop x
      conv at this => arg 5; simp
      conv => arg 5; simp (disch := first | omega | (simp; omega)) [item_f, o2_pow, hx]
      exact this
    · have := loop 0
      conv at this => arg 5; simp
      conv => arg 5; simp (disch := first | omega | (simp; omega)) [item_f, o2_pow, hx]
      exact this
theorem boolsD_map {α : Type} (p : α → Bool) : ∀ xs : List α, boolsD (xs.map fun k => PyData.bool (p k)) = some (xs.map p)
  | [] => rfl
  | x :: r => by
    show (boolsD (r.map fun k => PyData.bool (p k))).map (p x :: ·) = _
    rw [boolsD_map p r]; rfl
theorem b_all {α : Type} (p : α → Bool) (xs : List α) : bF .all [.list (xs.map fun k => PyData.bool (p k))] = some (.v (.bool (xs.all p))) := by
  have h : boF (fun bs => bs.all id) [.list (xs.map fun k => PyData.bool (p k))] = some (.v (.bool (xs.all p))) := by
    show (boolsD _).map _ = _
    rw [boolsD_map, Option.map_some]
    show some (RV.v (.bool ((xs.map p).all id))) = _
    rw [List.all_map]; rfl
  show orF _ _ _ = _
  unfold orF
  rw [h]
theorem b_any {α : Type} (p : α → Bool) (xs : List α) : bF .any [.list (xs.map fun k => PyData.bool (p k))] = some (.v (.bool (xs.any p))) := by
  show (boolsD _).map _ = _
  rw [boolsD_map, Option.map_some]
  show some (RV.v (.bool ((xs.map p).any id))) = _
  rw [List.any_map]; rfl
inductive Lk : Nat → D → Prop
  | non {n : Nat} : Lk n .none
  | int {n : Nat} (i : Int) : Lk n (.int i)
  | bl {n : Nat} (b : Bool) : Lk n (.bool b)
  | tup {n : Nat} {xs : List D} : xs.length ≤ 10000000 → (∀ x ∈ xs, Lk n x) → Lk (n + 1) (.tuple xs)
theorem m2_int {F : FE} {i : Int} : callD F m2 [.int i] = some (.v (.bool true)) := by
  rw [callD_eq]
  unfold m2 Wi.start
  simp
theorem eq_bool {b : Bool} : cm .eq (.bool b) (.bool b) = some true := by cases b <;> rfl
theorem like_ok {P : List Df} (h2 : P[2]? = some m2) (h3 : P[3]? = some m3) : ∀ (n : Nat) (x : D), Lk n x → ∀ k, run P (n + k + 2) 3 [x, x] = some (.v (.bool true)) := by
  intro n
  have e2 : ∀ (j : Nat) (i : Int), run P (j + 1) 2 [.int i] = some (.v (.bool true)) := fun j i => by
    rw [run_s, h2]
    exact m2_int (F := run P j)
  induction n with
  | zero =>
    intro x h k
    rw [run_s, h3]
    show callD (run P (0 + k + 1)) m3 [x, x] = _
    rw [callD_eq]
    unfold m3 Wi.start
    cases h with
    | non => simp
    | int i => simp [e2]
    | bl b => simp [eq_bool]
  | succ n ih =>
    intro x h k
    rw [run_s, h3]
    show callD (run P (n + 1 + k + 1)) m3 [x, x] = _
    rw [callD_eq]
    unfold m3 Wi.start
    cases h with
    | non => simp
    | int i => simp [e2]
    | bl b => simp [eq_bool]
    | @tup _ xs hl hx =>
      simp (disch := omega) [rng1]
      rw [comp_rg (fun _ => .bool true) (by omega) fun j hj => by
        have hj' : j < xs.length := by omega
        have e3 := ih xs[j] (hx _ (List.getElem_mem hj')) k
        rw [show n + k + 2 = n + 1 + k + 1 by omega] at e3
        simp (disch := omega) [item_t, nth_some hj', e3]]
      simp
      rw [b_all (fun _ => true)]
      simp
theorem m0_run {P : List Df} (h0 : P[0]? = some m0) (n : Nat) (ns : List Int) (k : Int) : ∃ z, run P (n + 1) 0 [fz (iD ns), .int k] = some (.v (.int z)) ∧ 0 ≤ z ∧ z < 1000003 := by
  rw [run_s, h0]; exact m0_ok ns k
/-- the row: its cells by place -/
theorem row_ok {P : List Df} (h0 : P[0]? = some m0) (h1 : P[1]? = some m1) (n : Nat) (ns : List Int) (many : Nat) (z : Int) (hz : z = many) (hm : many ≤ 1000) :
    ∃ (row : List Int) (c : Nat → Int), run P (n + 2) 1 [fz (iD ns), .int z] = some (.l (iD row)) ∧ row.length = many ∧ Cells row ∧ (∀ k, k < many → nth row k = some (c k)) ∧ ∀ k, 0 ≤ c k ∧ c k < 1000003 := by
  subst hz
  obtain ⟨row, e1, e2, e3⟩ := m1_ok (F := run P (n + 1)) ns many hm fun k => m0_run h0 n ns k
  refine ⟨row, fun k => row[k]?.getD 0, by rw [run_s, h1]; exact e1, e2, e3, fun k hk => ?_, fun k => ?_⟩
  · show row[k]? = some (row[k]?.getD 0)
    rw [List.getElem?_eq_getElem (by omega)]; rfl
  · show 0 ≤ row[k]?.getD 0 ∧ row[k]?.getD 0 < 1000003
    cases h : row[k]? with
    | none => exact ⟨by decide, by decide⟩
    | some x => exact e3 x (List.mem_of_getElem? h)
/-- one of some numbers, taken by its place -/
theorem pick (ys : List Int) {i : Int} (h : 0 ≤ i) (h2 : i < ys.length) : ∃ t, nth (iD ys) i.toNat = some (.int t) ∧ t ∈ ys := by
  have hl : i.toNat < ys.length := by omega
  exact ⟨ys[i.toNat], by rw [nth_iD, nth_some hl]; rfl, List.getElem_mem hl⟩
end Wp

namespace Wc
open PySem Wi Wp
structure Cv where
  vs : List Int
  p : Nat
  m : Int
def cD (c : Cv) : D := .tuple [.tuple (iD c.vs), .int c.p, .int c.m]
structure Cv.Ok (c : Cv) : Prop where
  ne : c.vs ≠ []
  len : c.vs.length ≤ 100000
  p : c.p ≤ c.vs.length
def oD : Option Int → D
  | some z => .int z
  | none => .none
@[simp] theorem oD_s {z : Int} : oD (some z) = .int z := rfl
@[simp] theorem oD_n : oD none = .none := rfl
/-- how often the period is gone back -/
def tn (c : Cv) (t : Nat) : Int := ((t : Int) - c.vs.length) / c.p + 1
def cv (c : Cv) (t : Nat) : Option Int :=
  if t < c.vs.length then nth c.vs t else if c.p = 0 then none else (nth c.vs ((t : Int) - tn c t * c.p).toNat).map (· + tn c t * c.m)
@[simp] theorem noL_iD {ns : List Int} : noLs (iD ns) = true := noLs_ints ns
theorem noL_cD (c : Cv) : (RV.v (cD c)).noL = true := by
  show noLs [.tuple (iD c.vs), .int c.p, .int c.m] = true
  show (noLs (iD c.vs) && (true && (true && true))) = true
  rw [noLs_ints]; rfl
@[simp] theorem after_cD {c : Cv} {l : List Nat} {env : En} : after (.v (cD c)) l env = env := after_noL (noL_cD c)
theorem tn_facts {c : Cv} (ok : c.Ok) {t : Nat} (h : ¬ t < c.vs.length) (hp : c.p ≠ 0) : 0 ≤ (t : Int) - tn c t * c.p ∧ (t : Int) - tn c t * c.p < c.vs.length ∧ 1 ≤ tn c t ∧ tn c t ≤ t := by
  have hpp : 0 < (c.p : Int) := by omega
  have e := Int.mul_ediv_add_emod ((t : Int) - c.vs.length) c.p
  have e1 := Int.emod_nonneg ((t : Int) - c.vs.length) (show (c.p : Int) ≠ 0 by omega)
  have e2 := Int.emod_lt_of_pos ((t : Int) - c.vs.length) hpp
  have e3 : 0 ≤ ((t : Int) - c.vs.length) / c.p := Int.ediv_nonneg (by omega) (by omega)
  have hl : 0 < c.vs.length := List.length_pos_iff.mpr ok.ne
  have e4 : ((t : Int) - c.vs.length) / c.p ≤ (t : Int) - c.vs.length := Int.ediv_le_self _ (by omega)
  have hk := ok.p
  have e5 : tn c t * c.p = c.p * (((t : Int) - c.vs.length) / c.p) + c.p := by unfold tn; rw [Int.add_mul, Int.one_mul, Int.mul_comm]
  refine ⟨by rw [e5]; omega, by rw [e5]; omega, by unfold tn; omega, by unfold tn; omega⟩
theorem cv_lt {c : Cv} {t : Nat} (h : t < c.vs.length) : cv c t = some c.vs[t] := by unfold cv; rw [if_pos h, nth_some h]
theorem cv_none {c : Cv} {t : Nat} (h : ¬ t < c.vs.length) (hp : c.p = 0) : cv c t = none := by unfold cv; rw [if_neg h, if_pos hp]
theorem cv_ge {c : Cv} (ok : c.Ok) {t : Nat} (h : ¬ t < c.vs.length) (hp : c.p ≠ 0) : ∃ z, nth c.vs ((t : Int) - tn c t * c.p).toNat = some z ∧ cv c t = some (z + tn c t * c.m) := by
  obtain ⟨h1, h2, h3, h4⟩ := tn_facts ok h hp
  have hl : ((t : Int) - tn c t * c.p).toNat < c.vs.length := by omega
  refine ⟨_, nth_some hl, ?_⟩
  unfold cv
  rw [if_neg h, if_neg hp, nth_some hl]; rfl
theorem cv_some {c : Cv} (ok : c.Ok) {t : Nat} (h : t < c.vs.length ∨ c.p ≠ 0) : ∃ z, cv c t = some z := by
  by_cases ht : t < c.vs.length
  · exact ⟨_, cv_lt ht⟩
  · obtain ⟨z, _, e⟩ := cv_ge ok ht (by rcases h with h | h; exact absurd h ht; exact h)
    exact ⟨_, e⟩
def rowsD (c : Cv) (n : Nat) : List D := (List.range n).map fun t => oD (cv c t)
/-- the sums so far -/
def sm (xs : List Int) (n : Nat) : Int := (xs.take n).sum
def sms (xs : List Int) (n : Nat) : List Int := (List.range n).map (sm xs)
def bin (s : Nat → Int) (b : Int) (t : Nat) : Nat → Nat → Option Nat
  | 0, _ => none
  | n + 1, k => if b < s (k + t) - s k then some k else bin s b t n (k + 1)
theorem cv_none_up {c : Cv} (ok : c.Ok) {t u : Nat} (h : cv c t = none) (hu : t ≤ u) : cv c u = none := by
  by_cases ht : t < c.vs.length ∨ c.p ≠ 0
  · obtain ⟨z, e⟩ := cv_some ok ht
    rw [h] at e; cases e
  · exact cv_none (by omega) (by omega)
end Wc

namespace Wc
open PySem Wi Wp
theorem nth_mem {α : Type} {xs : List α} {k : Nat} {x : α} (h : nth xs k = some x) : x ∈ xs := List.mem_of_getElem? h
theorem nth_lt {α : Type} {xs : List α} {k : Nat} {x : α} (h : nth xs k = some x) : k < xs.length := (List.getElem?_eq_some_iff.mp h).1
/-- what a small curve's values are like -/
structure Up (vs : List Int) : Prop where
  ne : vs ≠ []
  z : nth vs 0 = some 0
  b : ∀ x ∈ vs, 0 ≤ x ∧ x ≤ 12
  s : vs.Pairwise (· ≤ ·)
/-- a small curve -/
structure Sml (c : Cv) : Prop where
  up : Up c.vs
  len : c.vs.length ≤ 8
  p : c.p ≤ c.vs.length
  m : 0 ≤ c.m ∧ c.m ≤ 12
  z : c.p = 0 → c.m = 0
  s : c.p ≠ 0 → ∀ x y, nth c.vs (c.vs.length - 1) = some x → nth c.vs (c.vs.length - c.p) = some y → x - y ≤ c.m
theorem Sml.ok {c : Cv} (h : Sml c) : c.Ok := ⟨h.up.ne, by have := h.len; omega, h.p⟩
end Wc

namespace Wc
open PySem Wi Wp
def cvI (c : Cv) (t : Nat) : Int := (cv c t).getD 0
def rI (c : Cv) (n : Nat) : List Int := (List.range n).map (cvI c)
theorem cv_int {c : Cv} (ok : c.Ok) (hp : c.p ≠ 0) (t : Nat) : cv c t = some (cvI c t) := by
  obtain ⟨z, e⟩ := cv_some ok (t := t) (.inr hp)
  unfold cvI; rw [e]; rfl
theorem rI_len (c : Cv) (n : Nat) : (rI c n).length = n := by unfold rI; simp
theorem nth_rI {c : Cv} {n k : Nat} (h : k < n) : nth (rI c n) k = some (cvI c k) := by
  unfold nth rI
  rw [List.getElem?_map, List.getElem?_range h]; rfl
theorem mxI_mem : ∀ (xs : List Int), xs ≠ [] → mxI xs ∈ xs := by
  intro xs h
  cases xs with
  | nil => exact absurd rfl h
  | cons x r =>
    show r.foldl max x ∈ x :: r
    have gen : ∀ (r : List Int) (x : Int), r.foldl max x = x ∨ r.foldl max x ∈ r := by
      intro r
      induction r with
      | nil => intro x; exact .inl rfl
      | cons y t ih =>
        intro x
        rcases ih (max x y) with e | e
        · rw [List.foldl_cons, e]
          rcases Int.le_total x y with q | q
          · rw [Int.max_eq_right q]; exact .inr List.mem_cons_self
          · rw [Int.max_eq_left q]; exact .inl rfl
        · exact .inr (List.mem_cons_of_mem _ e)
    rcases gen r x with e | e
    · rw [e]; exact List.mem_cons_self
    · exact List.mem_cons_of_mem _ e
end Wc

namespace Wc
open PySem Wi Wp
end Wc

namespace Wc
open PySem Wi Wp
end Wc

namespace Wc
open PySem Wi Wp
theorem rowsD_s (c : Cv) (k : Nat) : rowsD c (k + 1) = rowsD c k ++ [oD (cv c k)] := by
  unfold rowsD; rw [List.range_succ, List.map_append]; rfl
@[simp] theorem rowsD_len (c : Cv) (k : Nat) : (rowsD c k).length = k := by unfold rowsD; simp
theorem noLs_app : ∀ (xs ys : List D), noLs (xs ++ ys) = (noLs xs && noLs ys)
  | [], ys => rfl
  | x :: r, ys => by show (noL x && noLs (r ++ ys)) = ((noL x && noLs r) && noLs ys); rw [noLs_app r ys, Bool.and_assoc]
theorem noL_oD (o : Option Int) : noL (oD o) = true := by cases o <;> rfl
theorem noLs_rowsD (c : Cv) : ∀ k, noLs (rowsD c k) = true
  | 0 => rfl
  | k + 1 => by rw [rowsD_s, noLs_app, noLs_rowsD c k]; show (true && (noL (oD (cv c k)) && true)) = true; rw [noL_oD]; rfl
@[simp] theorem after_rowsD {c : Cv} {k : Nat} {l : List Nat} {env : En} : after (.l (rowsD c k)) l env = env := after_noL (noLs_rowsD c k)
/-- the curve goes on as one period earlier -/
theorem cv_step {c : Cv} (ok : c.Ok) (hp : c.p ≠ 0) {t : Nat} (h : ¬ t < c.vs.length) : cv c t = some (cvI c (t - c.p) + c.m) := by
  have hk := ok.p
  have hpp : (c.p : Int) ≠ 0 := by omega
  obtain ⟨z, e1, e2⟩ := cv_ge ok h hp
  obtain ⟨f1, f2, f3, f4⟩ := tn_facts ok h hp
  rw [e2]
  by_cases ht : t - c.p < c.vs.length
  · have htn : tn c t = 1 := by
      unfold tn
      rw [Int.ediv_eq_zero_of_lt (by omega) (by omega)]; rfl
    rw [htn] at e1 ⊢
    have hx : ((t : Int) - 1 * (c.p : Int)).toNat = t - c.p := by omega
    rw [hx, nth_some ht] at e1
    unfold cvI
    rw [cv_lt ht]
    cases e1
    show _ = some (c.vs[t - c.p] + c.m)
    rw [Int.one_mul]
  · have htn : tn c (t - c.p) = tn c t - 1 := by
      unfold tn
      rw [show ((t - c.p : Nat) : Int) - (c.vs.length : Int) = (t : Int) - c.vs.length + (-1) * (c.p : Int) by omega, Int.add_mul_ediv_right _ _ hpp]
      omega
    obtain ⟨z2, g1, g2⟩ := cv_ge ok ht hp
    have hx : ((t - c.p : Nat) : Int) - tn c (t - c.p) * c.p = (t : Int) - tn c t * c.p := by
      rw [htn, Int.sub_mul, Int.one_mul]; omega
    rw [hx, e1] at g1
    cases g1
    unfold cvI
    rw [g2, htn, Int.sub_mul, Int.one_mul]
    show some _ = some (z + (tn c t * c.m - c.m) + c.m)
    congr 1; omega
def inn (P : Nat → Bool) : Nat → Nat → Option Nat
  | 0, _ => none
  | n + 1, t => if P t = true then some t else inn P n (t + 1)
def out (P : Nat → Nat → Bool) (N : Nat) : Nat → Nat → Option (Nat × Nat)
  | 0, _ => none
  | n + 1, s => match inn (P s) (N - s) s with
    | some t => some (s, t)
    | none => out P N n (s + 1)
theorem inn_some {P : Nat → Bool} : ∀ {n t u : Nat}, inn P n t = some u → t ≤ u ∧ u < t + n ∧ P u = true ∧ ∀ v, t ≤ v → v < u → P v = false
  | 0, _, _, h => by cases h
  | n + 1, t, u, h => by
    unfold inn at h
    split at h
    · rename_i hp; cases h; exact ⟨Nat.le_refl _, by omega, hp, fun v h1 h2 => by omega⟩
    · rename_i hp
      obtain ⟨a, b, c, d⟩ := inn_some h
      refine ⟨by omega, by omega, c, fun v h1 h2 => ?_⟩
      rcases Nat.lt_or_ge t v with q | q
      · exact d v q h2
      · have : v = t := by omega
        subst this; simpa using hp
theorem inn_none {P : Nat → Bool} : ∀ {n t : Nat}, inn P n t = none → ∀ v, t ≤ v → v < t + n → P v = false
  | 0, _, _, v, h1, h2 => by omega
  | n + 1, t, h, v, h1, h2 => by
    unfold inn at h
    split at h
    · cases h
    · rename_i hp
      rcases Nat.lt_or_ge t v with q | q
      · exact inn_none h v q (by omega)
      · have : v = t := by omega
        subst this; simpa using hp
/-- broken: more than the sum, or no bound though both parts have one -/
def bk (c : Cv) (s t : Nat) : Bool := match cv c s, cv c t with
  | some a, some b => (match cv c (s + t) with
    | some d => decide (a + b < d)
    | none => true)
  | _, _ => false
end Wc

namespace Wc
open PySem Wi Wp
theorem canAll : ∀ ns : List Int, PyData.canLayAll0 (iD ns) = true
  | [] => rfl
  | x :: r => by
    show (PyData.canLay0 (.int x) && PyData.canLayAll0 (iD r)) = true
    rw [canAll r]; rfl
theorem depAll : ∀ ns : List Int, PyData.depthAll (iD ns) = 0
  | [] => rfl
  | x :: r => by
    show max (PyData.depth (.int x)) (PyData.depthAll (iD r)) = 0
    rw [depAll r]; rfl
theorem eqvA : ∀ xs ys : List Int, PyData.eqvAll (iD xs) (iD ys) = decide (xs = ys)
  | [], [] => rfl
  | [], _ :: _ => rfl
  | _ :: _, [] => rfl
  | x :: xs, y :: ys => by
    show ((x == y) && PyData.eqvAll (iD xs) (iD ys)) = _
    rw [eqvA xs ys]
    by_cases h : x = y <;> by_cases h2 : xs = ys <;> simp [h, h2]
def hd (c : Cv) : Nat := c.vs.length - c.p
def fh (c : Cv) (j : Nat) : Int := cvI c (hd c + j)
def Pq (c : Cv) (q : Nat) : Bool := (List.range c.p).all fun j => decide (cvI c (hd c + j + q) - cvI c (hd c + j) = cvI c (hd c + q) - cvI c (hd c))
def lapL (c : Cv) : Nat := match inn (Pq c) (c.p - 1) 1 with
  | some q => q
  | none => c.p
def stF (c : Cv) (l : Nat) (rise : Int) : Nat → Nat
  | 0 => 0
  | h + 1 => if cvI c (h + l) - cvI c h = rise then stF c l rise h else h + 1
def riseL (c : Cv) : Int := cvI c (hd c + lapL c) - cvI c (hd c)
def lst (c : Cv) : Cv := if c.p = 0 then c else ⟨rI c (stF c (lapL c) (riseL c) (hd c) + lapL c), lapL c, riseL c⟩
theorem lapL_le {c : Cv} (hp : c.p ≠ 0) : 1 ≤ lapL c ∧ lapL c ≤ c.p := by
  unfold lapL
  split
  · rename_i q h
    obtain ⟨a, b, _⟩ := inn_some h
    omega
  · omega
theorem stF_le (c : Cv) (l : Nat) (rise : Int) : ∀ h, stF c l rise h ≤ h
  | 0 => Nat.le_refl _
  | h + 1 => by
    unfold stF
    split
    · have := stF_le c l rise h; omega
    · exact Nat.le_refl _
end Wc

namespace Wc
open PySem Wi Wp
def Per (s : Nat → Int) (q : Nat) : Prop := ∀ j, s (j + q) = s j
theorem per_mul {s : Nat → Int} {q : Nat} (h : Per s q) : ∀ a j, s (j + a * q) = s j
  | 0, j => by rw [Nat.zero_mul, Nat.add_zero]
  | a + 1, j => by rw [Nat.succ_mul, ← Nat.add_assoc, h, per_mul h a j]
def sj (c : Cv) (j : Nat) : Int := fh c (j + 1) - fh c j
theorem fh_p {c : Cv} (ok : c.Ok) (hp : c.p ≠ 0) (j : Nat) : fh c (j + c.p) = fh c j + c.m := by
  have hk := ok.p
  have := cv_step ok hp (t := hd c + (j + c.p)) (by unfold hd; omega)
  rw [cv_int ok hp] at this
  have := Option.some.inj this
  unfold fh
  rw [this, show hd c + (j + c.p) - c.p = hd c + j by omega]
theorem sj_p {c : Cv} (ok : c.Ok) (hp : c.p ≠ 0) : Per (sj c) c.p := fun j => by
  unfold sj
  rw [show j + c.p + 1 = (j + 1) + c.p by omega, fh_p ok hp, fh_p ok hp]
  omega
theorem pq_iff {c : Cv} (ok : c.Ok) (hp : c.p ≠ 0) (q : Nat) : Pq c q = true ↔ Per (sj c) q := by
  have e : Pq c q = true ↔ ∀ j, j < c.p → fh c (j + q) - fh c j = fh c q - fh c 0 := by
    unfold Pq fh
    rw [List.all_eq_true]
    constructor
    · intro h j hj
      have := of_decide_eq_true (h j (List.mem_range.mpr hj))
      rw [Nat.add_zero, ← Nat.add_assoc]; exact this
    · intro h j hj
      have := h j (List.mem_range.mp hj)
      rw [Nat.add_zero, ← Nat.add_assoc] at this
      exact decide_eq_true this
  rw [e]
  constructor
  · intro h
    have all : ∀ a j, j < c.p → fh c (j + a * c.p + q) - fh c (j + a * c.p) = fh c q - fh c 0 := by
      intro a
      induction a with
      | zero => intro j hj; rw [Nat.zero_mul, Nat.add_zero]; exact h j hj
      | succ a ih =>
        intro j hj
        rw [Nat.succ_mul, show j + (a * c.p + c.p) + q = (j + a * c.p + q) + c.p by omega, show j + (a * c.p + c.p) = (j + a * c.p) + c.p by omega, fh_p ok hp, fh_p ok hp]
        have := ih j hj
        omega
    have all2 : ∀ j, fh c (j + q) - fh c j = fh c q - fh c 0 := fun j => by
      have e2 : j % c.p + j / c.p * c.p = j := by rw [Nat.mul_comm]; exact Nat.mod_add_div j c.p
      have := all (j / c.p) (j % c.p) (Nat.mod_lt _ (by omega))
      rw [e2] at this; exact this
    intro j
    have a1 := all2 j
    have a2 := all2 (j + 1)
    unfold sj
    rw [show j + q + 1 = j + 1 + q by omega]
    omega
  · intro h j _
    induction j with
    | zero => rw [Nat.zero_add]
    | succ j ih =>
      have := h j
      unfold sj at this
      rw [show j + q + 1 = j + 1 + q by omega] at this
      have := ih (by omega)
      omega
def Gl (xs : List Int) (k : Nat) : Prop := xs.length % k = 0 ∧ xs.drop k = xs.take (xs.length - k)
end Wc

namespace Wc
open PySem Wi Wp
def sts (c : Cv) : List Int := (List.range c.p).map (sj c)
end Wc

namespace Wc
open PySem Wi Wp
/-- f rises no faster than g -/
def Slow (f g : Cv) : Prop := f.m * g.p ≤ g.m * f.p
theorem mxI_ge : ∀ {xs : List Int} {x : Int}, x ∈ xs → x ≤ mxI xs := by
  have gen : ∀ (r : List Int) (x : Int), x ≤ r.foldl max x ∧ ∀ y ∈ r, y ≤ r.foldl max x := by
    intro r
    induction r with
    | nil => intro x; exact ⟨Int.le_refl _, fun y h => by cases h⟩
    | cons z t ih =>
      intro x
      obtain ⟨a, b⟩ := ih (max x z)
      rw [List.foldl_cons]
      refine ⟨Int.le_trans (Int.le_max_left _ _) a, fun y hy => ?_⟩
      rcases List.mem_cons.mp hy with rfl | hy
      · exact Int.le_trans (Int.le_max_right _ _) a
      · exact b y hy
  intro xs x hx
  cases xs with
  | nil => cases hx
  | cons z r =>
    rcases List.mem_cons.mp hx with rfl | hx
    · exact (gen r x).1
    · exact (gen r z).2 x hx
theorem mxI_eq {xs : List Int} {m : Int} (h1 : m ∈ xs) (h2 : ∀ x ∈ xs, x ≤ m) : mxI xs = m :=
  Int.le_antisymm (h2 _ (mxI_mem xs (fun z => by rw [z] at h1; cases h1))) (mxI_ge h1)
end Wc

namespace Wc
open PySem Wi Wp
def behind (c_is_faster c_shared_head c_shared_lap c_head_of c_rows_of c_least_form : Nat) : Df := ⟨10, [.ite (.cmp .eq (.ix (.var 1) (.lit (.int 1))) (.lit (.int 0))) [.asg 2 (.bi .len [(.ix (.var 1) (.lit (.int 0)))])] [.ite (.or (.cmp .eq (.ix (.var 0) (.lit (.int 1))) (.lit (.int 0))) (.call c_is_faster [(.var 0), (.var 1)])) [.ret (.tup [(.tup [(.lit (.int 0))]), (.lit (.int 0)), (.lit (.int 0))])] [.asg 2 (.bin .add (.call c_shared_head [(.var 0), (.var 1)]) (.call c_shared_lap [(.var 0), (.var 1)]))]], .ite (.cmp .eq (.ix (.var 0) (.lit (.int 1))) (.lit (.int 0))) [.asg 3 (.bi .mx [(.lit (.int 1)), (.bin .add (.bin .sub (.bi .len [(.ix (.var 0) (.lit (.int 0)))]) (.var 2)) (.lit (.int 1)))])] [.asg 3 (.bin .add (.bi .mx [(.lit (.int 1)), (.call c_head_of [(.var 0)])]) (.ix (.var 0) (.lit (.int 1))))], .asg 4 (.call c_rows_of [(.var 0), (.bin .add (.var 3) (.var 2))]), .asg 5 (.call c_rows_of [(.var 1), (.var 2)]), .asg 6 (.lst [(.lit (.int 0))]), .for_ (.n 7) .rng [(.lit (.int 1)), (.var 3)] [.app 6 (.bi .mx [(.comp (.bin .sub (.var 8) (.var 9)) (.t [(.n 8), (.n 9)]) .zip [(.sl (.var 4) (some (.var 7)) (some (.bin .add (.var 7) (.var 2)))), (.var 5)] [8, 9] none)])], .ret (.call c_least_form [(.tup [(.bi .tuple [(.var 6)]), (.ix (.var 0) (.lit (.int 1))), (.ix (.var 0) (.lit (.int 2)))])])]⟩
theorem compL_nth {f : D → Option (Option D)} {g : Nat → D} : ∀ (xs : List D), (∀ k x, xs[k]? = some x → f x = some (some (g k))) → compL f xs = some ((List.range xs.length).map g) := by
  have gen : ∀ (xs : List D) (a : Nat), (∀ k x, xs[k]? = some x → f x = some (some (g (a + k)))) → compL f xs = some ((List.range xs.length).map fun k => g (a + k)) := by
    intro xs
    induction xs with
    | nil => intro a _; rfl
    | cons x r ih =>
      intro a h
      have h0 := h 0 x rfl
      have h1 := ih (a + 1) fun k y hk => by
        rw [show a + 1 + k = a + (k + 1) by omega]
        exact h (k + 1) y (by simpa using hk)
      rw [compL, h0, h1, List.length_cons, List.range_succ_eq_map, List.map_cons, List.map_map]
      show some (g (a + 0) :: _) = some (g (a + 0) :: _)
      congr 2
      apply List.map_congr_left
      intro k _
      show g (a + 1 + k) = g (a + (k + 1))
      congr 1
      omega
  intro xs h
  have := gen xs 0 (fun k x hk => by rw [Nat.zero_add]; exact h k x hk)
  simpa using this
theorem comp_nth {F : FE} {elt : E} {t : Tg} {vars : List Nat} {cond : Option E} {env : En} {xs : List D} (n : Nat) (g : Nat → D) (hn : xs.length = n) (hl : n ≤ 10000000) (h : ∀ k x, xs[k]? = some x → compF F elt t vars cond env x = some (some (g k))) :
    compR (compF F elt t vars cond env) (some xs) = some (.l ((List.range n).map g)) := by
  subst hn
  rw [compR_s hl, compL_nth xs h]; rfl
@[simp] theorem zipl {xs ys : List D} : srcs .zip [.list xs, .list ys] = some ((xs.zip ys).map fun p => .tuple [p.1, p.2]) := rfl
@[simp] theorem item_c0 {c : Cv} : item (cD c) (.int 0) = some (.tuple (iD c.vs)) := rfl
@[simp] theorem item_c1 {c : Cv} : item (cD c) (.int 1) = some (.int c.p) := rfl
@[simp] theorem item_c2 {c : Cv} : item (cD c) (.int 2) = some (.int c.m) := rfl
def fasB (f g : Cv) : Bool := decide (g.m * f.p < f.m * g.p)
theorem b_lcm {a b : Nat} (h1 : a ≤ 1000000) (h2 : b ≤ 1000000) : bF .lcm [.int a, .int b] = some (.v (.int (Nat.lcm a b : Nat))) := if_pos (show ((a : Int)).natAbs < 2 ^ 62 ∧ ((b : Int)).natAbs < 2 ^ 62 by omega)
section
variable {F : FE} {i4 i5 i6 i7 i8 i9 : Nat} {f g : Cv}
end
end Wc

namespace Wc
open PySem Wi Wp
theorem run_at {P : List Df} {n i : Nat} {d : Df} {ds : List D} (h : P[i]? = some d) : run P (n + 1) i ds = callD (run P n) d ds := by
  rw [run_s, h]; rfl
theorem stp_cons {F : FE} {s : S} {r : List S} {env : En} {N : En → Prop} {R : RV → Prop} {B C : En → Prop} (h : Stp (fun e => Stp N R B C (dnSs F r e)) R B C (dnS F s env)) : Stp N R B C (dnSs F (s :: r) env) := by
  rw [ss_cons']; exact stp_seq h
theorem lt_int {c : Cv} {t : Nat} (h : t < c.vs.length) : cv c t = some (cvI c t) := by
  unfold cvI; rw [cv_lt h]; rfl
theorem cvI_lt {c : Cv} {t : Nat} (h : t < c.vs.length) : cvI c t = c.vs[t] := by
  unfold cvI; rw [cv_lt h]; rfl
theorem cvI_step {c : Cv} (ok : c.Ok) (hp : c.p ≠ 0) {t : Nat} (h : ¬ t < c.vs.length) : cvI c t = cvI c (t - c.p) + c.m := by
  have := cv_step ok hp h
  rw [cv_int ok hp] at this
  exact Option.some.inj this
theorem lst_len {c : Cv} (ok : c.Ok) : (lst c).vs.length ≤ c.vs.length := by
  unfold lst
  split
  · exact Nat.le_refl _
  · rename_i hp
    show (rI c _).length ≤ _
    rw [rI_len]
    have h1 := stF_le c (lapL c) (riseL c) (hd c)
    have h2 := lapL_le hp
    have h3 := ok.p
    have : hd c + c.p = c.vs.length := by unfold hd; omega
    omega
structure Smc (c : Cv) : Prop where
  ok : c.Ok
  len : c.vs.length ≤ 100
theorem zip_get {xs ys : List D} {u : Nat} {x : D} (h : ((xs.zip ys).map fun p => PyData.tuple [p.1, p.2])[u]? = some x) : ∃ a b, xs[u]? = some a ∧ ys[u]? = some b ∧ x = .tuple [a, b] := by
  rw [List.getElem?_map] at h
  obtain ⟨⟨a, b⟩, h', rfl⟩ := Option.map_eq_some_iff.mp h
  obtain ⟨ha, hb⟩ := List.getElem?_zip_eq_some.mp h'
  exact ⟨a, b, ha, hb, rfl⟩
/-- a curve that lasts -/
structure Las (c : Cv) : Prop where
  up : Up c.vs
  len : c.vs.length ≤ 8
  p0 : c.p ≠ 0
  p : c.p ≤ c.vs.length
  m : 0 ≤ c.m ∧ c.m ≤ 12
  s : ∀ x y, nth c.vs (c.vs.length - 1) = some x → nth c.vs (c.vs.length - c.p) = some y → x - y ≤ c.m
theorem Las.ok {c : Cv} (h : Las c) : c.Ok := ⟨h.up.ne, by have := h.len; omega, h.p⟩
theorem Las.of_sml {c : Cv} (s : Sml c) (h : c.p ≠ 0) : Las c := ⟨s.up, s.len, h, s.p, s.m, s.s h⟩
theorem Up.le {vs : List Int} (u : Up vs) {i j : Nat} (hij : i ≤ j) (hj : j < vs.length) : vs[i] ≤ vs[j] := by
  rcases Nat.lt_or_ge i j with q | q
  · exact List.pairwise_iff_getElem.mp u.s _ _ _ _ q
  · have : i = j := by omega
    subst this; exact Int.le_refl _
theorem Las.step {c : Cv} (l : Las c) (t : Nat) : cvI c t ≤ cvI c (t + 1) := by
  induction t using Nat.strongRecOn with
  | ind t ih =>
    have hp := l.p
    have h0 := l.p0
    by_cases h1 : t + 1 < c.vs.length
    · rw [cvI_lt (show t < c.vs.length by omega), cvI_lt h1]
      exact l.up.le (by omega) h1
    · rw [cvI_step l.ok h0 h1]
      by_cases h2 : t < c.vs.length
      · have h3 : c.vs.length - c.p < c.vs.length := by omega
        have h4 : c.vs.length - 1 < c.vs.length := by omega
        have := l.s _ _ (nth_some h4) (nth_some h3)
        have e : t + 1 - c.p = c.vs.length - c.p := by omega
        have e2 : t = c.vs.length - 1 := by omega
        rw [e, cvI_lt h3, cvI_lt h2]
        subst e2
        omega
      · rw [cvI_step l.ok h0 h2]
        have := ih (t - c.p) (by omega)
        rw [show t - c.p + 1 = t + 1 - c.p by omega] at this
        omega
theorem Las.mono {c : Cv} (l : Las c) {s t : Nat} (h : s ≤ t) : cvI c s ≤ cvI c t := by
  obtain ⟨k, rfl⟩ := Nat.exists_eq_add_of_le h
  induction k with
  | zero => exact Int.le_refl _
  | succ k ih => exact Int.le_trans (ih (by omega)) (l.step _)
theorem Las.high {c : Cv} (l : Las c) (t : Nat) : c.p * cvI c t ≤ 12 * c.p + c.m * t := by
  induction t using Nat.strongRecOn with
  | ind t ih =>
    have hp := l.p
    have h0 := l.p0
    have hm := l.m
    by_cases h1 : t < c.vs.length
    · rw [cvI_lt h1]
      have h2 := (l.up.b _ (List.getElem_mem h1)).2
      have h3 : (c.p : Int) * c.vs[t] ≤ c.p * 12 := Int.mul_le_mul_of_nonneg_left h2 (by omega)
      have h4 : 0 ≤ c.m * (t : Int) := Int.mul_nonneg hm.1 (by omega)
      omega
    · rw [cvI_step l.ok h0 h1, Int.mul_add]
      have h2 := ih (t - c.p) (by omega)
      have h3 : c.m * (t : Int) = c.m * ((t - c.p : Nat) : Int) + c.p * c.m := by
        rw [Int.mul_comm (c.p : Int), ← Int.mul_add]
        congr 1
        omega
      omega
theorem Las.low {c : Cv} (l : Las c) (t : Nat) : c.m * ((t : Int) - 8) ≤ c.p * cvI c t := by
  induction t using Nat.strongRecOn with
  | ind t ih =>
    have hp := l.p
    have h0 := l.p0
    have hm := l.m
    have hl := l.len
    by_cases h1 : t < c.vs.length
    · rw [cvI_lt h1]
      have h2 := (l.up.b _ (List.getElem_mem h1)).1
      have h3 : 0 ≤ (c.p : Int) * c.vs[t] := Int.mul_nonneg (by omega) h2
      have h4 : 0 ≤ c.m * (8 - (t : Int)) := Int.mul_nonneg hm.1 (by omega)
      have h5 : c.m * ((t : Int) - 8) = -(c.m * (8 - (t : Int))) := by rw [← Int.mul_neg]; congr 1; omega
      omega
    · rw [cvI_step l.ok h0 h1, Int.mul_add]
      have h2 := ih (t - c.p) (by omega)
      have h3 : c.m * ((t : Int) - 8) = c.m * (((t - c.p : Nat) : Int) - 8) + c.p * c.m := by
        rw [Int.mul_comm (c.p : Int), ← Int.mul_add]
        congr 1
        omega
      omega
theorem Las.last {c : Cv} (l : Las c) : c.vs.getLast? = some (cvI c (c.vs.length - 1)) := by
  have : 0 < c.vs.length := List.length_pos_iff.mpr l.up.ne
  have h : c.vs.length - 1 < c.vs.length := by omega
  rw [List.getLast?_eq_getElem?, List.getElem?_eq_getElem h, cvI_lt h]
end Wc

namespace Wc
open PySem Wi Wp
/-- a curve with a period that never falls -/
structure Mn (c : Cv) : Prop where
  ok : c.Ok
  p : c.p ≠ 0
  mono : ∀ s t, s ≤ t → cvI c s ≤ cvI c t
theorem Las.mn {c : Cv} (l : Las c) : Mn c := ⟨l.ok, l.p0, fun _ _ h => l.mono h⟩
theorem Mn.last {c : Cv} (l : Mn c) : c.vs.getLast? = some (cvI c (c.vs.length - 1)) := by
  have : 0 < c.vs.length := List.length_pos_iff.mpr l.ok.ne
  have h : c.vs.length - 1 < c.vs.length := by omega
  rw [List.getLast?_eq_getElem?, List.getElem?_eq_getElem h, cvI_lt h]
theorem Mn.it {c : Cv} (l : Mn c) : item (.tuple (iD c.vs)) (.int (-1)) = some (.int (cvI c (c.vs.length - 1))) := by
  rw [item_tn (iD_ne l.ok.ne), iD_last, l.last]; rfl
theorem Mn.m {c : Cv} (l : Mn c) : 0 ≤ c.m := by
  have h := cvI_step l.ok l.p (t := c.vs.length) (by omega)
  have h2 := l.mono (c.vs.length - c.p) c.vs.length (by omega)
  omega
def upN (P : Nat → Bool) : Nat → Nat → Nat
  | 0, d => d
  | n + 1, d => if P d = true then d else upN P n (d + 1)
theorem upN_spec {P : Nat → Bool} : ∀ (n d : Nat), P (d + n) = true → d ≤ upN P n d ∧ P (upN P n d) = true ∧ ∀ x, d ≤ x → x < upN P n d → P x = false
  | 0, d, h => ⟨Nat.le_refl _, h, fun x h1 h2 => by have h2 : x < d := h2; omega⟩
  | n + 1, d, h => by
    rw [upN]
    split
    · rename_i q; exact ⟨Nat.le_refl _, q, fun x h1 h2 => by omega⟩
    · rename_i q
      obtain ⟨a, b, c⟩ := upN_spec n (d + 1) (by rw [show d + 1 + n = d + (n + 1) by omega]; exact h)
      refine ⟨by omega, b, fun x h1 h2 => ?_⟩
      by_cases hx : x = d
      · subst hx; simpa using q
      · exact c x (by omega) h2
section
variable {f g : Cv} {B : Nat}
end
end Wc

namespace Wc
open PySem Wi Wp
section
variable {f g : Cv} {B : Nat}
end
end Wc

namespace Wc
open PySem Wi Wp
@[simp] theorem after_cc {f g : Cv} {l : List Nat} {env : En} : after (.v (.tuple [cD f, cD g])) l env = env := after_noL (by
  have h1 := noL_cD f
  have h2 := noL_cD g
  show (noL (cD f) && (noL (cD g) && true)) = true
  rw [show noL (cD f) = true from h1, show noL (cD g) = true from h2]; rfl)
end Wc

namespace Wc
open PySem Wi Wp
/-- from h on it repeats itself -/
def RepF (F : Nat → Int) (h q : Nat) (r : Int) : Prop := ∀ t, h ≤ t → F (t + q) = F t + r
theorem rep_mul {F : Nat → Int} {h q : Nat} {r : Int} (H : RepF F h q r) {t : Nat} (ht : h ≤ t) : ∀ a : Nat, F (t + a * q) = F t + a * r
  | 0 => by simp
  | a + 1 => by
    rw [Nat.succ_mul, ← Nat.add_assoc, H _ (by omega), rep_mul H ht a]
    have e : ((a + 1 : Nat) : Int) * r = a * r + r := by rw [show ((a + 1 : Nat) : Int) = (a : Int) + 1 by omega, Int.add_mul, Int.one_mul]
    omega
theorem rep_cv {c : Cv} (ok : c.Ok) (hp : c.p ≠ 0) : RepF (cvI c) (hd c) c.p c.m := fun t ht => by
  have hk := ok.p
  have := cvI_step ok hp (t := t + c.p) (by unfold hd at ht; omega)
  rw [show t + c.p - c.p = t by omega] at this
  exact this
theorem lapL_spec {c : Cv} (ok : c.Ok) (hp : c.p ≠ 0) : Per (sj c) (lapL c) ∧ ∀ k, 1 ≤ k → k < lapL c → ¬ Per (sj c) k := by
  unfold lapL
  split
  · rename_i q h
    obtain ⟨a, b, d, e⟩ := inn_some h
    refine ⟨(pq_iff ok hp q).mp d, fun k h1 h2 z => ?_⟩
    have := (pq_iff ok hp k).mpr z
    rw [e k h1 h2] at this
    cases this
  · rename_i h
    refine ⟨sj_p ok hp, fun k h1 h2 z => ?_⟩
    have := (pq_iff ok hp k).mpr z
    rw [inn_none h k h1 (by omega)] at this
    cases this
theorem per_rep {c : Cv} {q : Nat} (h : Per (sj c) q) : RepF (cvI c) (hd c) q (cvI c (hd c + q) - cvI c (hd c)) := fun t ht => by
  obtain ⟨j, rfl⟩ := Nat.exists_eq_add_of_le ht
  clear ht
  induction j with
  | zero => rw [Nat.add_zero]; omega
  | succ j ih =>
    have := h j
    unfold sj fh at this
    rw [show hd c + (j + q + 1) = hd c + (j + 1) + q by omega, show hd c + (j + q) = hd c + j + q by omega] at this
    omega
theorem stF_spec (c : Cv) (l : Nat) (r : Int) : ∀ h, RepF (cvI c) h l r → RepF (cvI c) (stF c l r h) l r ∧ (stF c l r h = 0 ∨ cvI c (stF c l r h - 1 + l) ≠ cvI c (stF c l r h - 1) + r)
  | 0, H => ⟨H, .inl rfl⟩
  | h + 1, H => by
    unfold stF
    split
    · rename_i e
      refine stF_spec c l r h fun t ht => ?_
      by_cases hx : t = h
      · subst hx; omega
      · exact H t (by omega)
    · rename_i e
      exact ⟨H, .inr (by rw [Nat.add_sub_cancel]; omega)⟩
def lstS (c : Cv) : Nat := stF c (lapL c) (riseL c) (hd c)
theorem lst_rep {c : Cv} (ok : c.Ok) (hp : c.p ≠ 0) : RepF (cvI c) (lstS c) (lapL c) (riseL c) ∧ (lstS c = 0 ∨ cvI c (lstS c - 1 + lapL c) ≠ cvI c (lstS c - 1) + riseL c) :=
  stF_spec c (lapL c) (riseL c) (hd c) (per_rep (lapL_spec ok hp).1)
theorem lst_def {c : Cv} (hp : c.p ≠ 0) : lst c = ⟨rI c (lstS c + lapL c), lapL c, riseL c⟩ := by unfold lst; rw [if_neg hp]; rfl
theorem lst_ok {c : Cv} (ok : c.Ok) (hp : c.p ≠ 0) : (lst c).Ok ∧ (lst c).p ≠ 0 := by
  have h1 := lapL_le hp
  have h2 := lst_len ok
  rw [lst_def hp] at *
  have e : (rI c (lstS c + lapL c)).length = lstS c + lapL c := rI_len _ _
  have h3 := ok.len
  refine ⟨⟨fun z => ?_, ?_, ?_⟩, ?_⟩
  · have z : rI c (lstS c + lapL c) = [] := z
    rw [z] at e
    simp at e
    omega
  · show (rI c (lstS c + lapL c)).length ≤ 100000
    have h2 : (rI c (lstS c + lapL c)).length ≤ c.vs.length := h2
    omega
  · show lapL c ≤ (rI c (lstS c + lapL c)).length
    omega
  · show lapL c ≠ 0
    omega
theorem lst_cv {c : Cv} (ok : c.Ok) (hp : c.p ≠ 0) (t : Nat) : cvI (lst c) t = cvI c t := by
  obtain ⟨ok2, hp2⟩ := lst_ok ok hp
  have hr := (lst_rep ok hp).1
  have e1 : (lst c).vs.length = lstS c + lapL c := by rw [lst_def hp]; exact rI_len _ _
  have e2 : (lst c).p = lapL c := by rw [lst_def hp]
  have e3 : (lst c).m = riseL c := by rw [lst_def hp]
  have h1 := lapL_le hp
  induction t using Nat.strongRecOn with
  | ind t ih =>
    by_cases h : t < (lst c).vs.length
    · rw [cvI_lt h]
      have h' : t < lstS c + lapL c := by omega
      have n1 := nth_rI (c := c) h'
      have e4 : (lst c).vs = rI c (lstS c + lapL c) := by rw [lst_def hp]
      rw [← e4, nth_some h] at n1
      exact Option.some.inj n1
    · rw [cvI_step ok2 hp2 h, e2, e3, ih _ (by omega)]
      have := hr (t - lapL c) (by omega)
      rw [show t - lapL c + lapL c = t by omega] at this
      exact this.symm
theorem per_of_rep {c : Cv} (ok : c.Ok) (hp : c.p ≠ 0) {h q : Nat} {r : Int} (H : RepF (cvI c) h q r) : Per (sj c) q := fun j => by
  have hP := per_mul (sj_p ok hp)
  have e1 := hP h (j + q)
  have e2 := hP h j
  have hh : h ≤ h * c.p := Nat.le_mul_of_pos_right _ (by omega)
  rw [← e1, ← e2]
  unfold sj fh
  have a1 := H (hd c + (j + h * c.p + 1)) (by omega)
  have a2 := H (hd c + (j + h * c.p)) (by omega)
  rw [show hd c + (j + q + h * c.p + 1) = hd c + (j + h * c.p + 1) + q by omega, show hd c + (j + q + h * c.p) = hd c + (j + h * c.p) + q by omega, a1, a2]
  omega
/-- two tellings of one curve have one least form -/
theorem lst_eq {a b : Cv} (oka : a.Ok) (okb : b.Ok) (ha : a.p ≠ 0) (hb : b.p ≠ 0) (h : ∀ t, cvI a t = cvI b t) : lst a = lst b := by
  have hF : cvI a = cvI b := funext h
  have la := lapL_spec oka ha
  have lb := lapL_spec okb hb
  have qa := lapL_le ha
  have qb := lapL_le hb
  have ra := lst_rep oka ha
  have rb := lst_rep okb hb
  have p1 : Per (sj a) (lapL b) := per_of_rep oka ha (by rw [hF]; exact rb.1)
  have p2 : Per (sj b) (lapL a) := per_of_rep okb hb (by rw [← hF]; exact ra.1)
  have hq : lapL a = lapL b := by
    rcases Nat.lt_trichotomy (lapL a) (lapL b) with q | q | q
    · exact absurd p2 (lb.2 _ (by omega) q)
    · exact q
    · exact absurd p1 (la.2 _ (by omega) q)
  have hr : riseL a = riseL b := by
    have a1 := ra.1 (lstS a + lstS b) (by omega)
    have b1 := rb.1 (lstS a + lstS b) (by omega)
    rw [hF, hq] at a1
    omega
  have hs : lstS a = lstS b := by
    rcases Nat.lt_trichotomy (lstS a) (lstS b) with q | q | q
    · rcases rb.2 with z | z
      · omega
      · have := ra.1 (lstS b - 1) (by omega)
        rw [hF, hq, hr] at this
        exact absurd this z
    · exact q
    · rcases ra.2 with z | z
      · omega
      · have := rb.1 (lstS a - 1) (by omega)
        rw [← hF, ← hq, ← hr] at this
        exact absurd this z
  rw [lst_def ha, lst_def hb, hq, hr, hs]
  unfold rI
  rw [hF]
/-- a curve by its values: the function from its first n values on that repeats itself -/
theorem cv_of_rep {F : Nat → Int} {h q : Nat} {r : Int} (H : RepF F h q r) (hq : q ≠ 0) {n : Nat} (hn : h + q ≤ n) (hn2 : n ≤ 100000) :
    (⟨(List.range n).map F, q, r⟩ : Cv).Ok ∧ ∀ t, cvI ⟨(List.range n).map F, q, r⟩ t = F t := by
  have hl : ((List.range n).map F).length = n := by simp
  have ok : (⟨(List.range n).map F, q, r⟩ : Cv).Ok := by
    refine ⟨fun z => ?_, ?_, ?_⟩
    · have z : (List.range n).map F = [] := z
      rw [z] at hl; simp at hl; omega
    · show ((List.range n).map F).length ≤ 100000
      omega
    · show q ≤ ((List.range n).map F).length
      omega
  refine ⟨ok, fun t => ?_⟩
  induction t using Nat.strongRecOn with
  | ind t ih =>
    by_cases ht : t < n
    · have ht' : t < (⟨(List.range n).map F, q, r⟩ : Cv).vs.length := by show t < ((List.range n).map F).length; omega
      rw [cvI_lt ht']
      show ((List.range n).map F)[t] = F t
      simp
    · rw [cvI_step ok hq (by show ¬ t < ((List.range n).map F).length; omega)]
      show cvI ⟨(List.range n).map F, q, r⟩ (t - q) + r = F t
      rw [ih _ (by omega)]
      have := H (t - q) (by omega)
      rw [show t - q + q = t by omega] at this
      exact this.symm
end Wc

namespace Wp
open PySem Wi
section
variable {N : En → Prop} {R : RV → Prop} {B C : En → Prop}
end
end Wp

namespace Wc
open PySem Wi Wp
def lesser : Df := ⟨2, [.ite (.cmp .is_ (.var 0) (.lit .none)) [.ret (.var 1)] [], .ite (.cmp .is_ (.var 1) (.lit .none)) [.ret (.var 0)] [], .ret (.bi .mn [(.var 0), (.var 1)])]⟩
def least_of (c_shared_head c_is_faster c_lesser_tail c_lesser c_rows_of c_least_form : Nat) : Df := ⟨12, [.ite (.and (.cmp .eq (.ix (.var 0) (.lit (.int 1))) (.lit (.int 0))) (.cmp .eq (.ix (.var 1) (.lit (.int 1))) (.lit (.int 0)))) [.par [2, 3, 4] [(.bi .mx [(.bi .len [(.ix (.var 0) (.lit (.int 0)))]), (.bi .len [(.ix (.var 1) (.lit (.int 0)))])]), (.lit (.int 0)), (.lit (.int 0))]] [.ite (.or (.cmp .eq (.ix (.var 0) (.lit (.int 1))) (.lit (.int 0))) (.cmp .eq (.ix (.var 1) (.lit (.int 1))) (.lit (.int 0)))) [.asg 5 (.ife (.cmp .eq (.ix (.var 0) (.lit (.int 1))) (.lit (.int 0))) (.var 1) (.var 0)), .par [2, 3, 4] [(.bin .add (.call c_shared_head [(.var 0), (.var 1)]) (.ix (.var 5) (.lit (.int 1)))), (.ix (.var 5) (.lit (.int 1))), (.ix (.var 5) (.lit (.int 2)))]] [.unp [(.n 6), (.n 7)] (.ife (.call c_is_faster [(.var 0), (.var 1)]) (.tup [(.var 1), (.var 0)]) (.tup [(.var 0), (.var 1)])), .unp [(.n 8), (.n 3), (.n 4)] (.call c_lesser_tail [(.var 6), (.var 7)]), .asg 2 (.bin .add (.var 8) (.var 3))]], .asg 9 (.comp (.call c_lesser [(.var 10), (.var 11)]) (.t [(.n 10), (.n 11)]) .zip [(.call c_rows_of [(.var 0), (.var 2)]), (.call c_rows_of [(.var 1), (.var 2)])] [10, 11] none), .ret (.call c_least_form [(.tup [(.bi .tuple [(.var 9)]), (.var 3), (.var 4)])])]⟩
theorem Las.nn {c : Cv} (l : Las c) (t : Nat) : 0 ≤ cvI c t := by
  have h := l.mono (Nat.zero_le t)
  have h0 : 0 < c.vs.length := List.length_pos_iff.mpr l.up.ne
  have hz := l.up.z
  rw [nth_some h0] at hz
  rw [cvI_lt h0, Option.some.inj hz] at h
  exact h
/-- a curve about a line of rise a / b -/
structure Lin (c : Cv) (a b : Int) : Prop where
  b0 : 0 < b
  a0 : 0 ≤ a
  ab : a ≤ 12 * b
  r : c.m * b = a * c.p
  up : ∀ t : Nat, b * cvI c t ≤ 12 * b + a * t
  lo : ∀ t : Nat, a * ((t : Int) - 8) ≤ b * cvI c t
  nn : ∀ t, 0 ≤ cvI c t
theorem Las.lin {c : Cv} (l : Las c) : Lin c c.m c.p where
  b0 := by have := l.p0; omega
  a0 := l.m.1
  ab := by have := l.p0; have := l.m; omega
  r := rfl
  up := l.high
  lo := l.low
  nn := l.nn
/-- f no faster than g: at most 108 above it -/
theorem Lin.gap {f g : Cv} {a b a' b' : Int} (lf : Lin f a b) (lg : Lin g a' b') (hf : f.p ≠ 0) (hg : g.p ≠ 0) (h : Slow f g) (t : Nat) : cvI f t - cvI g t ≤ 108 := by
  have f1 := lf.b0; have g1 := lg.b0
  have e1 := lf.r; have e2 := lg.r
  -- a b' ≤ a' b
  have hr : a * b' ≤ a' * b := by
    unfold Slow at h
    have hp : 0 < (f.p : Int) * g.p := Int.mul_pos (by omega) (by omega)
    have h2 : f.m * g.p * (b * b') ≤ g.m * f.p * (b * b') := Int.mul_le_mul_of_nonneg_right h (Int.le_of_lt (Int.mul_pos f1 g1))
    have q1 : f.m * g.p * (b * b') = (a * b') * ((f.p : Int) * g.p) := by
      calc f.m * g.p * (b * b') = (f.m * b) * (g.p * b') := by ac_rfl
        _ = (a * f.p) * (g.p * b') := by rw [e1]
        _ = (a * b') * ((f.p : Int) * g.p) := by ac_rfl
    have q2 : g.m * f.p * (b * b') = (a' * b) * ((f.p : Int) * g.p) := by
      calc g.m * f.p * (b * b') = (g.m * b') * (f.p * b) := by ac_rfl
        _ = (a' * g.p) * (f.p * b) := by rw [e2]
        _ = (a' * b) * ((f.p : Int) * g.p) := by ac_rfl
    rw [q1, q2] at h2
    exact Int.le_of_mul_le_mul_right h2 hp
  have b1 : b' * (b * cvI f t) ≤ b' * (12 * b + a * t) := Int.mul_le_mul_of_nonneg_left (lf.up t) (by omega)
  have b2 : b * (a' * ((t : Int) - 8)) ≤ b * (b' * cvI g t) := Int.mul_le_mul_of_nonneg_left (lg.lo t) (by omega)
  have b3 : a * b' * (t : Int) ≤ a' * b * t := Int.mul_le_mul_of_nonneg_right hr (by omega)
  have b4 : b * a' ≤ b * (12 * b') := Int.mul_le_mul_of_nonneg_left lg.ab (by omega)
  have c1 : b' * (12 * b + a * t) = 12 * (b * b') + a * b' * t := by
    rw [Int.mul_add]
    congr 1
    · ac_rfl
    · ac_rfl
  have c2 : b * (a' * ((t : Int) - 8)) = a' * b * t - 8 * (b * a') := by
    rw [Int.mul_sub, Int.mul_sub]
    congr 1
    · ac_rfl
    · ac_rfl
  have c3 : b' * (b * cvI f t) = b * b' * cvI f t := by ac_rfl
  have c4 : b * (b' * cvI g t) = b * b' * cvI g t := by ac_rfl
  have c5 : b * (12 * b') = 12 * (b * b') := by ac_rfl
  have fin : b * b' * (cvI f t - cvI g t) ≤ b * b' * 108 := by
    rw [Int.mul_sub]
    omega
  exact Int.le_of_mul_le_mul_left fin (Int.mul_pos f1 g1)
def mnO : Option Int → Option Int → Option Int
  | none, b => b
  | a, none => a
  | some a, some b => some (min a b)
theorem mnO_comm (a b : Option Int) : mnO a b = mnO b a := by
  cases a <;> cases b <;> simp [mnO]
  omega
end Wc

namespace Wc
open PySem Wi Wp
end Wc

namespace Wc
open PySem Wi Wp
theorem mnI_mem : ∀ (xs : List Int), xs ≠ [] → mnI xs ∈ xs := by
  intro xs h
  cases xs with
  | nil => exact absurd rfl h
  | cons x r =>
    show r.foldl min x ∈ x :: r
    have gen : ∀ (r : List Int) (x : Int), r.foldl min x = x ∨ r.foldl min x ∈ r := by
      intro r
      induction r with
      | nil => intro x; exact .inl rfl
      | cons y t ih =>
        intro x
        rcases ih (min x y) with e | e
        · rw [List.foldl_cons, e]
          rcases Int.le_total x y with q | q
          · rw [Int.min_eq_left q]; exact .inl rfl
          · rw [Int.min_eq_right q]; exact .inr List.mem_cons_self
        · exact .inr (List.mem_cons_of_mem _ e)
    rcases gen r x with e | e
    · rw [e]; exact List.mem_cons_self
    · exact List.mem_cons_of_mem _ e
theorem mnI_le : ∀ {xs : List Int} {x : Int}, x ∈ xs → mnI xs ≤ x := by
  have gen : ∀ (r : List Int) (x : Int), r.foldl min x ≤ x ∧ ∀ y ∈ r, r.foldl min x ≤ y := by
    intro r
    induction r with
    | nil => intro x; exact ⟨Int.le_refl _, fun y h => by cases h⟩
    | cons z t ih =>
      intro x
      obtain ⟨a, b⟩ := ih (min x z)
      rw [List.foldl_cons]
      refine ⟨Int.le_trans a (Int.min_le_left _ _), fun y hy => ?_⟩
      rcases List.mem_cons.mp hy with rfl | hy
      · exact Int.le_trans a (Int.min_le_right _ _)
      · exact b y hy
  intro xs x hx
  cases xs with
  | nil => cases hx
  | cons z r =>
    rcases List.mem_cons.mp hx with rfl | hx
    · exact (gen r x).1
    · exact (gen r z).2 x hx
end Wc

namespace Wc
open PySem Wi Wp
@[simp] theorem after_li2 {a b : Int} {l : List Nat} {env : En} : after (.l [.int a, .int b]) l env = env := after_noL rfl
@[simp] theorem after_li3 {a b c : Int} {l : List Nat} {env : En} : after (.l [.int a, .int b, .int c]) l env = env := after_noL rfl
section
variable {f g : Cv} {n p n' p' : Nat} {m m' : Int}
end
end Wc

namespace Wc
open PySem Wi Wp
section
variable {f g : Cv} {n p : Nat} {m : Int}
/-- the rise of what stays about a line -/
theorem rate_of {F : Nat → Int} {h q : Nat} {r a b : Int} (H : RepF F h q r) (up : ∀ t : Nat, b * F t ≤ 12 * b + a * t) (lo : ∀ t : Nat, a * ((t : Int) - 8) ≤ b * F t) : r * b = a * q := by
  have u : ∀ k : Nat, b * F h + k * (r * b) ≤ 12 * b + a * h + k * (a * q) := fun k => by
    have := up (h + k * q)
    rw [rep_mul H (Nat.le_refl _) k, Int.mul_add] at this
    have e1 : b * ((k : Int) * r) = k * (r * b) := by ac_rfl
    have e2 : a * ((h + k * q : Nat) : Int) = a * h + k * (a * q) := by
      rw [Int.natCast_add, Int.natCast_mul, Int.mul_add]
      congr 1
      ac_rfl
    omega
  have l : ∀ k : Nat, a * h - 8 * a + k * (a * q) ≤ b * F h + k * (r * b) := fun k => by
    have := lo (h + k * q)
    rw [rep_mul H (Nat.le_refl _) k, Int.mul_add] at this
    have e1 : b * ((k : Int) * r) = k * (r * b) := by ac_rfl
    have e2 : a * (((h + k * q : Nat) : Int) - 8) = a * h - 8 * a + k * (a * q) := by
      rw [Int.natCast_add, Int.natCast_mul, Int.mul_sub, Int.mul_add]
      have : a * ((k : Int) * q) = k * (a * q) := by ac_rfl
      omega
    omega
  generalize r * b = x at *
  generalize a * (q : Int) = y at *
  rcases Int.lt_trichotomy x y with q | q | q
  · -- y - x ≥ 1: the lower bound breaks
    have h1 := l ((b * F h - a * h + 8 * a).toNat + 1)
    generalize hk : (b * F h - a * h + 8 * a).toNat + 1 = k at *
    have h2 : (k : Int) * (y - x) ≥ k * 1 := Int.mul_le_mul_of_nonneg_left (by omega) (by omega)
    rw [Int.mul_sub] at h2
    omega
  · exact q
  · have h1 := u ((12 * b + a * h - b * F h).toNat + 1)
    generalize hk : (12 * b + a * h - b * F h).toNat + 1 = k at *
    have h2 : (k : Int) * (x - y) ≥ k * 1 := Int.mul_le_mul_of_nonneg_left (by omega) (by omega)
    rw [Int.mul_sub] at h2
    omega
theorem lin_of {c : Cv} {a b : Int} (ok : c.Ok) (hp : c.p ≠ 0) (b0 : 0 < b) (a0 : 0 ≤ a) (ab : a ≤ 12 * b) (up : ∀ t : Nat, b * cvI c t ≤ 12 * b + a * t) (lo : ∀ t : Nat, a * ((t : Int) - 8) ≤ b * cvI c t) (nn : ∀ t, 0 ≤ cvI c t) : Lin c a b :=
  ⟨b0, a0, ab, rate_of (rep_cv ok hp) up lo, up, lo, nn⟩
theorem Lin.lst {c : Cv} {a b : Int} (l : Lin c a b) (ok : c.Ok) (hp : c.p ≠ 0) : Lin (lst c) a b := by
  obtain ⟨ok2, hp2⟩ := lst_ok ok hp
  have e := lst_cv ok hp
  exact lin_of ok2 hp2 l.b0 l.a0 l.ab (fun t => by rw [e]; exact l.up t) (fun t => by rw [e]; exact l.lo t) fun t => by rw [e]; exact l.nn t
/-- a curve to be reckoned with -/
structure Gd (c : Cv) (N P : Nat) : Prop where
  ok : c.Ok
  len : c.vs.length ≤ N
  p : c.p ≤ P
  z : c.p = 0 → c.m = 0
  lin : c.p ≠ 0 → ∃ a b, Lin c a b
  nn : ∀ x ∈ c.vs, 0 ≤ x
theorem Sml.gd {c : Cv} (s : Sml c) : Gd c 8 8 := ⟨s.ok, s.len, by have := s.len; have := s.p; omega, s.z, fun h => ⟨_, _, (Las.of_sml s h).lin⟩, fun x hx => (s.up.b x hx).1⟩
theorem Gd.mono {c : Cv} {N P N' P' : Nat} (h : Gd c N P) (hN : N ≤ N') (hP : P ≤ P') : Gd c N' P' := ⟨h.ok, by have := h.len; omega, by have := h.p; omega, h.z, h.lin, h.nn⟩
end
end Wc

namespace Wc
open PySem Wi Wp
section
variable {F : FE} {f g : Cv} {N P N' P' : Nat}
end
end Wc

namespace Wc
open PySem Wi Wp
abbrev Fo := Nat → Option Int
/-- g: the least sums of f -/
structure IsCl (f : Fo) (g : Nat → Int) : Prop where
  z : g 0 = 0
  le : ∀ t s v, 1 ≤ s → s ≤ t → f s = some v → g t ≤ v + g (t - s)
  ex : ∀ t, 1 ≤ t → ∃ s v, 1 ≤ s ∧ s ≤ t ∧ f s = some v ∧ g t = v + g (t - s)
theorem IsCl.uniq {f : Fo} {g h : Nat → Int} (a : IsCl f g) (b : IsCl f h) (t : Nat) : g t = h t := by
  induction t using Nat.strongRecOn with
  | ind t ih =>
    rcases Nat.eq_zero_or_pos t with q | q
    · subst q; rw [a.z, b.z]
    · obtain ⟨s, v, s1, s2, e1, e2⟩ := a.ex t q
      obtain ⟨u, w, u1, u2, d1, d2⟩ := b.ex t q
      have x1 := a.le t u w u1 u2 d1
      have x2 := b.le t s v s1 s2 e1
      rw [ih (t - u) (by omega)] at x1
      rw [← ih (t - s) (by omega)] at x2
      omega
def bst (f : Fo) (g : Nat → Int) (t : Nat) : List Int := (List.range t).filterMap fun k => (f (k + 1)).map (· + g (t - (k + 1)))
theorem bst_congr {f : Fo} {g h : Nat → Int} {t : Nat} (e : ∀ k, k < t → g k = h k) : bst f g t = bst f h t := by
  unfold bst
  have gen : ∀ L : List Nat, (∀ k ∈ L, k < t) → (L.filterMap fun k => (f (k + 1)).map (· + g (t - (k + 1)))) = L.filterMap fun k => (f (k + 1)).map (· + h (t - (k + 1))) := by
    intro L
    induction L with
    | nil => intro _; rfl
    | cons k r ih =>
      intro hk
      have h1 := hk k List.mem_cons_self
      rw [List.filterMap_cons, List.filterMap_cons, e _ (by omega), ih fun j hj => hk j (List.mem_cons_of_mem _ hj)]
  exact gen _ fun k hk => List.mem_range.mp hk
def clV (f : Fo) : Nat → Nat → Int
  | 0, _ => 0
  | n + 1, t => if t ≤ n then clV f n t else mnI (bst f (clV f n) (n + 1))
def clF (f : Fo) (t : Nat) : Int := clV f t t
theorem clV_st (f : Fo) : ∀ (n t : Nat), t ≤ n → clV f n t = clF f t
  | 0, t, h => by have : t = 0 := by omega
                  subst this; rfl
  | n + 1, t, h => by
    by_cases q : t ≤ n
    · rw [clV, if_pos q, clV_st f n t q]
    · have : t = n + 1 := by omega
      subst this; rfl
theorem clF_s (f : Fo) (n : Nat) : clF f (n + 1) = mnI (bst f (clF f) (n + 1)) := by
  show clV f (n + 1) (n + 1) = _
  rw [clV, if_neg (by omega)]
  rw [bst_congr fun k hk => clV_st f n k (by omega)]
theorem mem_bst {f : Fo} {g : Nat → Int} {t : Nat} {x : Int} : x ∈ bst f g t ↔ ∃ s v, 1 ≤ s ∧ s ≤ t ∧ f s = some v ∧ x = v + g (t - s) := by
  unfold bst
  rw [List.mem_filterMap]
  constructor
  · rintro ⟨k, hk, e⟩
    obtain ⟨v, e1, e2⟩ := Option.map_eq_some_iff.mp e
    exact ⟨k + 1, v, by omega, by have := List.mem_range.mp hk; omega, e1, e2.symm⟩
  · rintro ⟨s, v, h1, h2, e1, e2⟩
    refine ⟨s - 1, List.mem_range.mpr (by omega), ?_⟩
    rw [show s - 1 + 1 = s by omega, e1, e2]; rfl
theorem clF_is {f : Fo} {v1 : Int} (h1 : f 1 = some v1) : IsCl f (clF f) := by
  have hne : ∀ t, 1 ≤ t → bst f (clF f) t ≠ [] := fun t ht z => by
    have : v1 + clF f (t - 1) ∈ bst f (clF f) t := mem_bst.mpr ⟨1, v1, Nat.le_refl _, ht, h1, rfl⟩
    rw [z] at this
    cases this
  refine ⟨rfl, fun t s v a b e => ?_, fun t ht => ?_⟩
  · obtain ⟨n, rfl⟩ : ∃ n, t = n + 1 := ⟨t - 1, by omega⟩
    rw [clF_s]
    exact mnI_le (mem_bst.mpr ⟨s, v, a, b, e, rfl⟩)
  · obtain ⟨n, rfl⟩ : ∃ n, t = n + 1 := ⟨t - 1, by omega⟩
    rw [clF_s]
    obtain ⟨s, v, a, b, e, x⟩ := mem_bst.mp (mnI_mem _ (hne _ ht))
    exact ⟨s, v, a, b, e, x⟩
def okP (f : Fo) (l : List Nat) : Prop := ∀ s ∈ l, 1 ≤ s ∧ ∃ v, f s = some v
def cost (f : Fo) (l : List Nat) : Int := (l.map fun s => (f s).getD 0).sum
section
variable {f : Fo} {g : Nat → Int}
theorem cost_app (a b : List Nat) : cost f (a ++ b) = cost f a + cost f b := by unfold cost; rw [List.map_append, List.sum_append]
theorem cost_cons (s : Nat) (l : List Nat) : cost f (s :: l) = (f s).getD 0 + cost f l := by unfold cost; rw [List.map_cons, List.sum_cons]
theorem dec_le (c : IsCl f g) : ∀ {l : List Nat}, okP f l → g l.sum ≤ cost f l
  | [], _ => by show g 0 ≤ 0; rw [c.z]; exact Int.le_refl _
  | s :: l, h => by
    obtain ⟨h1, v, e⟩ := h s List.mem_cons_self
    have h2 := dec_le c (l := l) fun x hx => h x (List.mem_cons_of_mem _ hx)
    have h3 := c.le (s + l.sum) s v h1 (by omega) e
    rw [List.sum_cons, cost_cons, e]
    rw [show s + l.sum - s = l.sum by omega] at h3
    show _ ≤ v + _
    omega
theorem dec_ex (c : IsCl f g) (t : Nat) : ∃ l, okP f l ∧ l.sum = t ∧ cost f l = g t := by
  induction t using Nat.strongRecOn with
  | ind t ih =>
    rcases Nat.eq_zero_or_pos t with q | q
    · subst q; exact ⟨[], (fun s h => by cases h), rfl, c.z.symm⟩
    · obtain ⟨s, v, s1, s2, e1, e2⟩ := c.ex t q
      obtain ⟨l, a, b, d⟩ := ih (t - s) (by omega)
      refine ⟨s :: l, fun x hx => ?_, by rw [List.sum_cons, b]; omega, by rw [cost_cons, d, e1, e2]; rfl⟩
      rcases List.mem_cons.mp hx with rfl | hx
      · exact ⟨s1, v, e1⟩
      · exact a x hx
theorem okP_app {a b : List Nat} (h1 : okP f a) (h2 : okP f b) : okP f (a ++ b) := fun s hs => by
  rcases List.mem_append.mp hs with h | h
  · exact h1 s h
  · exact h2 s h
theorem cl_sub (c : IsCl f g) (s t : Nat) : g (s + t) ≤ g s + g t := by
  obtain ⟨a, a1, a2, a3⟩ := dec_ex c s
  obtain ⟨b, b1, b2, b3⟩ := dec_ex c t
  have := dec_le c (okP_app a1 b1)
  rw [List.sum_append, cost_app, a2, b2, a3, b3] at this
  exact this
theorem cl_le (c : IsCl f g) {t : Nat} {v : Int} (h : 1 ≤ t) (e : f t = some v) : g t ≤ v := by
  have := c.le t t v h (Nat.le_refl _) e
  rw [Nat.sub_self, c.z] at this
  omega
end
theorem pig : ∀ (b : Nat) (h : Nat → Nat), (∀ i, i ≤ b → h i < b) → ∃ i j, i < j ∧ j ≤ b ∧ h i = h j
  | 0, h, hh => absurd (hh 0 (Nat.le_refl _)) (Nat.not_lt_zero _)
  | b + 1, h, hh => by
    by_cases q : ∃ i, i ≤ b ∧ h i = h (b + 1)
    · obtain ⟨i, a, e⟩ := q
      exact ⟨i, b + 1, by omega, Nat.le_refl _, e⟩
    · have hx := hh (b + 1) (Nat.le_refl _)
      have hn : ∀ i, i ≤ b → h i ≠ h (b + 1) := fun i a e => q ⟨i, a, e⟩
      obtain ⟨i, j, a, d, e⟩ := pig b (fun i => if h (b + 1) < h i then h i - 1 else h i) fun i hi => by
        have h1 := hh i (by omega)
        have h2 := hn i hi
        split <;> omega
      refine ⟨i, j, a, by omega, ?_⟩
      have h1 := hn i (by omega)
      have h2 := hn j d
      split at e <;> split at e <;> omega
theorem block {b : Nat} (hb : 1 ≤ b) {l : List Nat} (hl : b ≤ l.length) : ∃ l1 l2 l3, l = l1 ++ l2 ++ l3 ∧ l2 ≠ [] ∧ l2.sum % b = 0 := by
  obtain ⟨i, j, a, d, e⟩ := pig b (fun i => (l.take i).sum % b) fun i _ => Nat.mod_lt _ hb
  have e1 : l.take j = l.take i ++ (l.take j).drop i := by
    have := (List.take_append_drop i (l.take j)).symm
    rw [List.take_take, Nat.min_eq_left (by omega)] at this
    exact this
  refine ⟨l.take i, (l.take j).drop i, l.drop j, ?_, fun z => ?_, ?_⟩
  · rw [← e1, List.take_append_drop]
  · have := congrArg List.length z
    rw [List.length_drop, List.length_take] at this
    simp at this
    omega
  · have e2 : (l.take j).sum = (l.take i).sum + ((l.take j).drop i).sum := by
      conv => lhs; rw [e1]
      rw [List.sum_append]
    rw [e2] at e
    generalize ((l.take j).drop i).sum = x at *
    generalize (l.take i).sum = y at *
    have h1 := Nat.mod_add_div y b
    have h2 := Nat.mod_add_div (y + x) b
    rw [← e] at h2
    have h3 : x = b * ((y + x) / b) - b * (y / b) := by omega
    rw [← Nat.mul_sub] at h3
    rw [h3]
    exact Nat.mul_mod_right _ _
section
variable {f : Fo} {g : Nat → Int} {b short : Nat} {v : Int}
/-- b: a part of the least rate among those below short -/
structure Best (f : Fo) (short b : Nat) (v : Int) : Prop where
  b1 : 1 ≤ b
  b2 : b < short
  e : f b = some v
  r : ∀ s x, 1 ≤ s → s < short → f s = some x → v * s ≤ x * b
end
end Wc

namespace Wc
open PySem Wi Wp
theorem least_ex {P : Nat → Prop} (h : ∃ s, P s) : ∃ s, P s ∧ ∀ u, u < s → ¬ P u := by
  obtain ⟨s, hs⟩ := h
  induction s using Nat.strongRecOn with
  | ind s ih =>
    by_cases q : ∃ u, u < s ∧ P u
    · obtain ⟨u, a, b⟩ := q
      exact ih u a b
    · exact ⟨s, hs, fun u a b => q ⟨u, a, b⟩⟩
section
variable {c : Cv} {G : Nat → Int}
theorem cv_back (ok : c.Ok) {t : Nat} {x : Int} (h : c.vs.length ≤ t) (e : cv c t = some x) : c.p ≠ 0 ∧ ∃ y, cv c (t - c.p) = some y ∧ x = y + c.m := by
  have hp : c.p ≠ 0 := fun z => by rw [cv_none (by omega) z] at e; cases e
  refine ⟨hp, cvI c (t - c.p), cv_int ok hp _, ?_⟩
  rw [cv_int ok hp] at e
  rw [← Option.some.inj e]
  exact cvI_step ok hp (by omega)
theorem cv_fwd (ok : c.Ok) (hp : c.p ≠ 0) {t : Nat} {x : Int} (h : hd c ≤ t) (e : cv c t = some x) : cv c (t + c.p) = some (x + c.m) := by
  rw [cv_int ok hp] at e ⊢
  rw [← Option.some.inj e, rep_cv ok hp t h]
theorem first_part (ok : c.Ok) (z : nth c.vs 0 = some 0) (C : IsCl (cv c) G) (t : Nat) (ht : 1 ≤ t) :
    cv c t = some (G t) ∨ ∃ s x, 1 ≤ s ∧ s < c.vs.length ∧ s < t ∧ cv c s = some x ∧ G t = x + G (t - s) ∧ ∀ u y, 1 ≤ u → u < s → cv c u = some y → x < y + G (s - u) := by
  induction t using Nat.strongRecOn with
  | ind t ih =>
    have hk := ok.p
    obtain ⟨s, ⟨x, s1, s2, e1, e2⟩, hmin⟩ := least_ex (P := fun s => ∃ x, 1 ≤ s ∧ s ≤ t ∧ cv c s = some x ∧ G t = x + G (t - s)) (by
      obtain ⟨s, v, a, b, d, e⟩ := C.ex t ht
      exact ⟨s, v, a, b, d, e⟩)
    have irr : ∀ u y, 1 ≤ u → u < s → cv c u = some y → x < y + G (s - u) := fun u y u1 u2 d1 => by
      rcases Int.lt_or_le x (y + G (s - u)) with q | q
      · exact q
      · exfalso
        refine hmin u u2 ⟨y, u1, by omega, d1, ?_⟩
        have h1 := C.le t u y u1 (by omega) d1
        have h2 := cl_sub C (s - u) (t - s)
        rw [show s - u + (t - s) = t - u by omega] at h2
        omega
    by_cases hst : s = t
    · left
      subst hst
      rw [Nat.sub_self, C.z, Int.add_zero] at e2
      rw [e2]; exact e1
    · by_cases hs : s < c.vs.length
      · exact .inr ⟨s, x, s1, hs, by omega, e1, e2, irr⟩
      · obtain ⟨hp, y0, d0, d1⟩ := cv_back ok (by omega) e1
        rcases ih (t - s) (by omega) (by omega) with q | ⟨u, w, u1, u2, u3, q1, q2, _⟩
        · by_cases hy : t - s < c.vs.length
          · exfalso
            refine hmin (t - s) (by omega) ⟨_, by omega, by omega, q, ?_⟩
            have h1 := C.le t (t - s) _ (by omega) (by omega) q
            have h2 := cl_le C s1 e1
            rw [show t - (t - s) = s by omega] at h1 ⊢
            omega
          · have hf := cv_fwd ok hp (by unfold hd; omega) q
            by_cases hsp : c.p < s
            · exfalso
              refine hmin (s - c.p) (by omega) ⟨y0, by omega, by omega, d0, ?_⟩
              have h1 := C.le t (s - c.p) y0 (by omega) (by omega) d0
              have h2 := cl_le C (by omega) hf
              rw [show t - s + c.p = t - (s - c.p) by omega] at h2
              omega
            · left
              have hsp : s = c.p := by omega
              have h0 : y0 = 0 := by
                rw [show s - c.p = 0 by omega, lt_int (List.length_pos_iff.mpr ok.ne)] at d0
                have h3 := List.length_pos_iff.mpr ok.ne
                rw [nth_some h3] at z
                rw [cvI_lt h3, Option.some.inj z] at d0
                exact (Option.some.inj d0).symm
              rw [show t - s + c.p = t by omega] at hf
              rw [hf, e2]
              congr 1
              omega
        · exfalso
          refine hmin u (by omega) ⟨w, u1, by omega, q1, ?_⟩
          have h1 := C.le t u w u1 (by omega) q1
          have h2 := C.le (t - u) s x s1 (by omega) e1
          rw [show t - u - s = t - s - u by omega] at h2
          omega
/-- small parts, and at most one great one -/
theorem parts (ok : c.Ok) (z : nth c.vs 0 = some 0) (C : IsCl (cv c) G) (t : Nat) : ∃ l r, okP (cv c) l ∧ (∀ s ∈ l, s < c.vs.length) ∧ l.sum + r = t ∧ (r = 0 ∨ (c.vs.length ≤ r ∧ cv c r = some (G r))) ∧ G t = cost (cv c) l + G r := by
  induction t using Nat.strongRecOn with
  | ind t ih =>
    rcases Nat.eq_zero_or_pos t with q | q
    · subst q
      exact ⟨[], 0, (fun s h => by cases h), (fun s h => by cases h), rfl, .inl rfl, by simp [cost]⟩
    · rcases first_part ok z C t q with e | ⟨s, x, s1, s2, s3, e1, e2, _⟩
      · by_cases h : t < c.vs.length
        · refine ⟨[t], 0, fun s hs => ?_, fun s hs => ?_, by simp, .inl rfl, ?_⟩
          · rw [List.mem_singleton.mp hs]; exact ⟨q, _, e⟩
          · rw [List.mem_singleton.mp hs]; exact h
          · rw [C.z]
            show G t = ((cv c t).getD 0 + 0) + 0
            rw [e]
            show G t = G t + 0 + 0
            omega
        · exact ⟨[], t, (fun s h => by cases h), (fun s h => by cases h), by simp, .inr ⟨by omega, e⟩, by simp [cost]⟩
      · obtain ⟨l, r, a1, a2, a3, a4, a5⟩ := ih (t - s) (by omega)
        refine ⟨s :: l, r, fun u hu => ?_, fun u hu => ?_, by rw [List.sum_cons]; omega, a4, by rw [cost_cons, e1, e2, a5]; show x + _ = x + _ + _; omega⟩
        · rcases List.mem_cons.mp hu with rfl | hu
          · exact ⟨s1, x, e1⟩
          · exact a1 u hu
        · rcases List.mem_cons.mp hu with rfl | hu
          · exact s2
          · exact a2 u hu
end
end Wc

namespace Wc
open PySem Wi Wp
theorem Sml.one {c : Cv} (s : Sml c) (h : 2 ≤ c.vs.length) : cv c 1 = some (cvI c 1) := lt_int (by omega)
theorem Sml.cl {c : Cv} (s : Sml c) (h : 2 ≤ c.vs.length) : IsCl (cv c) (clF (cv c)) := clF_is (s.one h)
structure TailS (c : Cv) (st lap : Nat) (rise : Int) : Prop where
  lap0 : lap ≠ 0
  rep : RepF (clF (cv c)) st lap rise
  st1 : 2 ≤ st + lap
  stB : st ≤ 3000
  lapB : lap ≤ 8
theorem better {vs : List Int} {b s u : Nat} (hb : b < vs.length) (hs : s < vs.length) (hu : u < vs.length) (b1 : 1 ≤ b) (h1 : vs[s] * (b : Int) < vs[b] * (s : Int)) (h2 : vs[b] * (u : Int) ≤ vs[u] * (b : Int)) : vs[s] * (u : Int) ≤ vs[u] * (s : Int) := by
  have q1 : vs[s] * (b : Int) * u ≤ vs[b] * (s : Int) * u := Int.mul_le_mul_of_nonneg_right (Int.le_of_lt h1) (by omega)
  have q2 : vs[b] * (u : Int) * s ≤ vs[u] * (b : Int) * s := Int.mul_le_mul_of_nonneg_right h2 (by omega)
  have e1 : vs[b] * (s : Int) * u = vs[b] * (u : Int) * s := by ac_rfl
  have e2 : vs[s] * (b : Int) * u = vs[s] * (u : Int) * b := by ac_rfl
  have e3 : vs[u] * (b : Int) * s = vs[u] * (s : Int) * b := by ac_rfl
  have q3 : vs[s] * (u : Int) * b ≤ vs[u] * (s : Int) * b := by omega
  exact Int.le_of_mul_le_mul_right q3 (by omega)
/-- g: the closed curve of c -/
structure IsCc (c g : Cv) : Prop where
  ok : g.Ok
  one : c.vs.length = 1 → g = c
  p : 2 ≤ c.vs.length → g.p ≠ 0
  f : lst g = g
  v : 2 ≤ c.vs.length → ∀ t, cvI g t = clF (cv c) t
theorem IsCc.uniq {c g h : Cv} (a : IsCc c g) (b : IsCc c h) (hc : c.vs ≠ []) : g = h := by
  by_cases h1 : c.vs.length = 1
  · rw [a.one h1, b.one h1]
  · have h2 : 2 ≤ c.vs.length := by have := List.length_pos_iff.mpr hc; omega
    rw [← a.f, ← b.f]
    exact lst_eq a.ok b.ok (a.p h2) (b.p h2) fun t => by rw [a.v h2, b.v h2]
end Wc

namespace Wc
open PySem Wi Wp
/-- the greatest of 0 and the first n -/
def mp (d : Nat → Int) : Nat → Int
  | 0 => 0
  | n + 1 => max (mp d n) (d n)
section
variable {d : Nat → Int}
end
section
variable {f g : Cv}
def gapF (f g : Cv) (s : Nat) : Int := cvI f s - cvI g s
/-- the curve of what is left over, told by so many values -/
def loC (f g : Cv) (n p : Nat) (m : Int) : Cv := ⟨(List.range n).map fun t => mp (gapF f g) (t + 1), p, m⟩
structure LoS (f g : Cv) (n p : Nat) (m : Int) : Prop where
  p0 : p ≠ 0
  nB : n ≤ 100000
  rep : ∃ st, st + p ≤ n ∧ RepF (fun t => mp (gapF f g) (t + 1)) st p m
theorem LoS.ok {n p : Nat} {m : Int} (h : LoS f g n p m) : (loC f g n p m).Ok ∧ ∀ t, cvI (loC f g n p m) t = mp (gapF f g) (t + 1) := by
  obtain ⟨st, h1, h2⟩ := h.rep
  exact cv_of_rep h2 h.p0 h1 h.nB
theorem LoS.eq {n p n' p' : Nat} {m m' : Int} (h : LoS f g n p m) (h' : LoS f g n' p' m') : lst (loC f g n p m) = lst (loC f g n' p' m') := by
  obtain ⟨o1, v1⟩ := h.ok
  obtain ⟨o2, v2⟩ := h'.ok
  exact lst_eq o1 o2 h.p0 h'.p0 fun t => by rw [v1, v2]
end
end Wc

namespace Wc
open PySem Wi Wp
def closed (c_is_closed c_least_form c_sums_tail c_rows_of c_least_sums : Nat) : Df := ⟨7, [.ite (.cmp .is_ (.call c_is_closed [(.var 0)]) (.lit .none)) [.ret (.call c_least_form [(.var 0)])] [], .asg 1 (.ix (.var 0) (.lit (.int 0))), .unp [(.n 2), (.n 3), (.n 4)] (.call c_sums_tail [(.var 1), (.ix (.var 0) (.lit (.int 1))), (.ix (.var 0) (.lit (.int 2)))]), .asg 5 (.bin .add (.var 2) (.var 3)), .asg 6 (.ife (.cmp .eq (.ix (.var 0) (.lit (.int 1))) (.lit (.int 0))) (.var 1) (.call c_rows_of [(.var 0), (.var 5)])), .ret (.call c_least_form [(.tup [(.bi .tuple [(.call c_least_sums [(.var 6), (.bi .len [(.var 1)]), (.var 5)])]), (.var 3), (.var 4)])])]⟩
def best_part : Df := ⟨4, [.asg 2 (.lit (.int 1)), .for_ (.n 3) .rng [(.lit (.int 2)), (.var 1)] [.ite (.cmp .lt (.bin .mul (.ix (.var 0) (.var 3)) (.var 2)) (.bin .mul (.ix (.var 0) (.var 2)) (.var 3))) [.asg 2 (.var 3)] []], .ret (.var 2)]⟩
theorem best_ok {F : FE} {c : Cv} (h2 : 2 ≤ c.vs.length) (hl : c.vs.length ≤ 1000) : ∃ b : Nat, callD F best_part [.tuple (iD c.vs), .int c.vs.length] = some (.v (.int b)) ∧ ∃ hb : b < c.vs.length, Best (cv c) c.vs.length b c.vs[b] := by
  suffices h : Rets (callD F best_part [.tuple (iD c.vs), .int c.vs.length]) fun r => ∃ b : Nat, r = .v (.int b) ∧ ∃ hb : b < c.vs.length, Best (cv c) c.vs.length b c.vs[b] by
    obtain ⟨_, e, b, rfl, h⟩ := h
    exact ⟨b, e, h⟩
  have base : ∀ u (hu : u < c.vs.length), 1 ≤ u → u < 2 + 0 → c.vs[1] * (u : Int) ≤ c.vs[u] * ((1 : Nat) : Int) := fun u hu u1 u2 => by
    have : u = 1 := by omega
    subst this
    exact Int.le_refl _
  refine rets_f ?_
  unfold best_part Wi.start
  conv => arg 5; simp -implicitDefEqProofs (disch := omega) [rng2]
  refine stp_rgn (c.vs.length - 2) (fun k e => ∃ (b : Nat) (s5 : Sl), e = [.v (.tuple (iD c.vs)), .v (.int c.vs.length), .v (.int b), s5] ∧ 1 ≤ b ∧ ∃ hb : b < c.vs.length, ∀ u (hu : u < c.vs.length), 1 ≤ u → u < 2 + k → c.vs[b] * (u : Int) ≤ c.vs[u] * (b : Int))
    (by omega) ⟨1, _, rfl, by omega, by omega, base⟩ ?_ ?_
  · rintro k e hk ⟨b, s5, rfl, hb1, hb, hbest⟩
    have hk2 : 2 + k < c.vs.length := by omega
    have n1 := nth_some hk2
    have n2 := nth_some hb
    have t1 : (2 + (k : Int)).toNat = 2 + k := by omega
    by_cases hx : c.vs[2 + k] * (b : Int) < c.vs[b] * (2 + (k : Int))
    · conv => arg 5; simp -implicitDefEqProofs (disch := omega) [item_t, t1, n1, n2, o2_mul, hx]
      refine stp_nx.mpr ⟨2 + k, _, rfl, by omega, hk2, fun u hu u1 u2 => ?_⟩
      by_cases hu2 : u = 2 + k
      · subst hu2; exact Int.le_refl _
      · exact better hb hk2 hu hb1 (by rw [Int.natCast_add]; exact hx) (hbest u hu u1 (by omega))
    · conv => arg 5; simp -implicitDefEqProofs (disch := omega) [item_t, t1, n1, n2, o2_mul, hx]
      refine stp_nx.mpr ⟨b, _, rfl, hb1, hb, fun u hu u1 u2 => ?_⟩
      by_cases hu2 : u = 2 + k
      · subst hu2
        have : ((2 + k : Nat) : Int) = 2 + (k : Int) := by omega
        rw [this]; omega
      · exact hbest u hu u1 (by omega)
  · rintro e ⟨b, s5, rfl, hb1, hb, hbest⟩
    conv => arg 5; simp -implicitDefEqProofs
    exact stp_rt.mpr ⟨b, rfl, hb, hb1, hb, cv_lt hb, fun u x u1 u2 e => by
      rw [cv_lt u2] at e
      cases e
      exact hbest u u2 u1 (by omega)⟩
end Wc

namespace Wc
open PySem Wi Wp
section
variable {F : FE} {ic il it ir is : Nat} {c : Cv}
end
end Wc

namespace Wc
open PySem Wi Wp
theorem Sml.step {c : Cv} (s : Sml c) (k : Nat) (x : Int) (hk : 2 ≤ k) (e : cv c k = some x) : ∃ y, cv c (k - 1) = some y ∧ y ≤ x := by
  by_cases hp : c.p = 0
  · have hl : k < c.vs.length := by
      rcases Nat.lt_or_ge k c.vs.length with q | q
      · exact q
      · rw [cv_none (by omega) hp] at e; cases e
    rw [cv_lt hl] at e
    refine ⟨_, cv_lt (show k - 1 < c.vs.length by omega), ?_⟩
    rw [← Option.some.inj e]
    exact s.up.le (by omega) hl
  · have l := Las.of_sml s hp
    refine ⟨_, cv_int s.ok hp _, ?_⟩
    rw [cv_int s.ok hp] at e
    rw [← Option.some.inj e]
    exact l.mono (by omega)
def lastS (ys : List Int) (j : Nat) : Int := sm ys ys.length - sm ys (ys.length - j)
def rm (g : Nat → Int) (ys : List Int) (o : Int) : Nat → Int
  | 0 => min o (g 1)
  | j + 1 => min (rm g ys o j) (g (j + 2) - lastS ys (j + 1))
def kp (g o : Nat → Int) : Nat → List Int
  | 0 => []
  | k + 1 => kp g o k ++ [rm g (kp g o k) (o k) k]
/-- it keeps to the curve -/
structure Kept (g : Nat → Int) (ys : List Int) : Prop where
  nn : ∀ x ∈ ys, 0 ≤ x
  sp : ∀ a b, a ≤ b → b ≤ ys.length → sm ys b - sm ys a ≤ g (b - a)
def lz (xs : List Int) (b : Nat → Int) (t : Nat) : Int := mnI ((List.range (t + 1)).map fun s => sm xs (min s xs.length) + b (t - s))
def dfs (f : Nat → Int) (n : Nat) : List Int := (List.range n).map fun k => f (k + 1) - f k
theorem nth_mr {f : Nat → Int} {n k : Nat} (h : k < n) : nth ((List.range n).map f) k = some (f k) := by
  unfold nth
  rw [List.getElem?_map, List.getElem?_range h]; rfl
theorem shpT (ns : List Int) : SeqAt.shaped (.tuple (iD ns)) = true := by
  have h1 := canAll ns
  have h2 := depAll ns
  unfold SeqAt.shaped
  show ((PyData.canLayAll0 (iD ns)) && decide _) = true
  rw [h1]
  simp only [Bool.true_and, decide_eq_true_eq]
  show PyData.depth (.tuple (iD ns)) ≤ _
  unfold PyData.depth
  rw [h2]
  decide
theorem eqT {xs ys : List Int} : cm .eq (.tuple (iD xs)) (.tuple (iD ys)) = some (decide (xs = ys)) := by
  show eqD _ _ = _
  unfold eqD
  rw [if_pos ⟨shpT xs, shpT ys⟩]
  show some (PyData.eqvAll (iD xs) (iD ys)) = _
  rw [eqvA]
end Wc

namespace Wc
open PySem Wi Wp
end Wc

namespace Wc
open PySem Wi Wp
def more (xs : List Int) (p : Nat) (u : Int) : List Int := xs.take p ++ (xs[p]?.getD 0 + u) :: xs.drop (p + 1)
def KeptF (f : Fo) (ys : List Int) : Prop := ∀ t v, 1 ≤ t → f t = some v → ∀ a, a + t ≤ ys.length → sm ys (a + t) - sm ys a ≤ v
structure Clo (f g : Cv) : Prop where
  up : ∀ t v, cv f t = some v → 1 ≤ t → cvI g t ≤ v
  sub : ∀ s t, cvI g (s + t) ≤ cvI g s + cvI g t
  kept : ∀ {ys : List Int}, KeptF (cv f) ys → ∀ t a, a + t ≤ ys.length → sm ys (a + t) - sm ys a ≤ cvI g t
  z : cvI g 0 = 0
end Wc

namespace Wc
open PySem Wi Wp
section
variable {F : FE} {f g : Cv} {xs : List Int} {ic ib is ir il : Nat}
end
end Wc

namespace Wc
open PySem Wi Wp
end Wc

namespace Wc
open PySem Wi Wp
structure SmG (c : Cv) : Prop where
  z0 : nth c.vs 0 = some 0
  b : ∀ x ∈ c.vs, -12 ≤ x ∧ x ≤ 12
  len : c.vs.length ≤ 16
  p : c.p ≤ c.vs.length
  m : -12 ≤ c.m ∧ c.m ≤ 12
  z : c.p = 0 → c.m = 0
theorem SmG.pos {c : Cv} (s : SmG c) : 0 < c.vs.length := by
  have h := s.z0
  unfold nth at h
  exact (List.getElem?_eq_some_iff.mp h).1
theorem SmG.ok {c : Cv} (s : SmG c) : c.Ok := ⟨List.length_pos_iff.mp s.pos, by have := s.len; omega, s.p⟩
theorem SmG.one {c : Cv} (s : SmG c) (h : 2 ≤ c.vs.length) : cv c 1 = some (cvI c 1) := lt_int (by omega)
theorem SmG.cl {c : Cv} (s : SmG c) (h : 2 ≤ c.vs.length) : IsCl (cv c) (clF (cv c)) := clF_is (s.one h)
theorem Sml.g {c : Cv} (s : Sml c) : SmG c := ⟨s.up.z, fun x hx => by have := s.up.b x hx; omega, by have := s.len; omega, s.p, by have := s.m; omega, s.z⟩
structure TailG (c : Cv) (st lap : Nat) (rise : Int) : Prop where
  lap0 : lap ≠ 0
  rep : RepF (clF (cv c)) st lap rise
  st1 : 2 ≤ st + lap
  stB : st ≤ 9000
  lapB : lap ≤ 16
section
variable {F : FE} {ic il it ir is : Nat} {c : Cv}
end
end Wc

namespace Wc
open PySem Wi Wp
theorem comp_iD {F : FE} {elt : E} {t : Tg} {vars : List Nat} {cond : Option E} {env : En} {xs : List Int} (h : Int → Int) (hn : xs.length ≤ 10000000) (hx : ∀ x ∈ xs, compF F elt t vars cond env (.int x) = some (some (.int (h x)))) :
    compR (compF F elt t vars cond env) (some (iD xs)) = some (.l (iD (xs.map h))) := by
  rw [comp_map (fun d => match d with | .int i => .int (h i) | d => d) (by rw [iD_len]; exact hn) (fun x hx2 => by
    obtain ⟨i, hi, rfl⟩ := List.mem_map.mp hx2
    exact hx i hi)]
  unfold iD
  rw [List.map_map, List.map_map]; rfl
structure FrOk (f : Cv) (size : Nat) (g : Cv) : Prop where
  ex : ∃ c, SmG c ∧ IsCc c g ∧ (f.p = 0 → c = ⟨f.vs.map (· / (size : Int)), 0, 0⟩) ∧ (f.p ≠ 0 → c.p ≠ 0 ∧ ∀ t, cvI c t = cvI f t / (size : Int))
end Wc

namespace Wc
open PySem Wi Wp
section
variable {k d p : Int} {ys : List Int}
end
end Wc

namespace Wc
open PySem Wi Wp
def raised (c_rows_of c_broken_pair c_least_form c_sums_tail c_least_sums : Nat) : Df := ⟨9, [.asg 1 (.bi .len [(.ix (.var 0) (.lit (.int 0)))]), .asg 2 (.comp (.neg (.var 8)) (.n 8) .val [(.call c_rows_of [(.var 0), (.bin .mul (.lit (.int 2)) (.var 1))])] [8] none), .ite (.cmp .is_ (.call c_broken_pair [(.var 2), (.var 1)]) (.lit .none)) [.ret (.call c_least_form [(.var 0)])] [], .unp [(.n 3), (.n 4), (.n 5)] (.call c_sums_tail [(.sl (.var 2) none (some (.var 1))), (.ix (.var 0) (.lit (.int 1))), (.neg (.ix (.var 0) (.lit (.int 2))))]), .asg 6 (.bin .add (.var 3) (.var 4)), .asg 2 (.comp (.neg (.var 8)) (.n 8) .val [(.call c_rows_of [(.var 0), (.var 6)])] [8] none), .asg 7 (.call c_least_sums [(.var 2), (.var 1), (.var 6)]), .ret (.call c_least_form [(.tup [(.bi .tuple [(.comp (.neg (.var 8)) (.n 8) .val [(.var 7)] [8] none)]), (.var 4), (.neg (.var 5))])])]⟩
def Ng (c : Cv) : Cv := ⟨c.vs.map (fun x => -x), c.p, -c.m⟩
/-- g: the raised curve of c -/
structure IsUp (c g : Cv) : Prop where
  ok : g.Ok
  p : g.p ≠ 0
  f : lst g = g
  one : c.vs.length = 1 → g = c
  v : 2 ≤ c.vs.length → ∀ t, cvI g t = -clF (cv (Ng c)) t
theorem IsUp.uniq {c g h : Cv} (hc : c.vs ≠ []) (a : IsUp c g) (b : IsUp c h) : g = h := by
  by_cases h1 : c.vs.length = 1
  · rw [a.one h1, b.one h1]
  · have h2 : 2 ≤ c.vs.length := by have := List.length_pos_iff.mpr hc; omega
    rw [← a.f, ← b.f]
    exact lst_eq a.ok b.ok a.p b.p fun t => by rw [a.v h2, b.v h2]
section
variable {F : FE} {c : Cv} {ir ib il it is : Nat}
end
end Wc

namespace Wc
open PySem Wi Wp
def bt (bs : List Int) (k : Nat) : Int := bs[k]?.getD 0
def rel (p j : Int) (bs : List Int) : Nat → Int
  | 0 => bt bs 0 - j
  | k + 1 => max (bt bs (k + 1) - j) (rel p j bs k + p)
section
variable {p j : Int} {bs : List Int}
end
structure Bts (bs : List Int) : Prop where
  len : bs.length ≤ 20
  s : bs.Pairwise (· ≤ ·)
  nn : ∀ x ∈ bs, 0 ≤ x ∧ x ≤ 5000
def cl (bs : List Int) (n : Nat) : Nat := bs.countP fun x => decide (x < (n : Int))
def cN (bs : List Int) : Nat := if bs.length = 0 then 0 else (bt bs (bs.length - 1) + 1).toNat
end Wc

namespace Wc
open PySem Wi Wp
def sp (p j : Int) (t : Nat) : Int := if t = 0 then 0 else ((t : Int) + j + p - 1) / p
theorem bt_app_lt {bs cs : List Int} {k : Nat} (h : k < bs.length) : bt (bs ++ cs) k = bt bs k := by
  unfold bt; rw [List.getElem?_append_left h]
theorem bt_app_eq {bs : List Int} {x : Int} : bt (bs ++ [x]) bs.length = x := by
  unfold bt; rw [List.getElem?_append_right (Nat.le_refl _), Nat.sub_self]; rfl
structure Fit (p j : Int) (k : Nat) (bs : List Int) (r beat : Int) : Prop where
  len : bs.length = k
  s : bs.Pairwise (· ≤ ·)
  nn : ∀ x ∈ bs, 0 ≤ x ∧ x ≤ beat
  b0 : 0 ≤ beat ∧ beat ≤ 41 + 50 * k
  r0 : r ≤ 50 * k
  lo : beat - j ≤ r
  w : ∀ i, i < k → bt bs i - j + ((k : Int) - i) * p ≤ r
  ok : ∀ i l, i ≤ l → l < k → bt bs i - j + ((l : Int) - i) * p ≤ bt bs l
section
variable {F : FE} {row : List Int} {c : Nat → Int} (hc : ∀ k, k < 38 → nth row k = some (c k)) (hb : ∀ k, 0 ≤ c k ∧ c k < 1000003) {p : Nat} {j : Int} (p1 : 1 ≤ p) (p2 : p ≤ 40) (j0 : 0 ≤ j) (j1 : j ≤ 40)
include hc hb p1 p2 j0 j1
end
end Wc

namespace Wc
open PySem Wi Wp
section
variable {F : FE} {row : List Int} {c : Nat → Int} (hc : ∀ k, k < 38 → nth row k = some (c k)) (hb : ∀ k, 0 ≤ c k ∧ c k < 1000003)
include hc hb
end
end Wc

namespace Wc
open PySem Wi Wp
def lgcd : Df := ⟨3, [.for_ (.n 2) .rng [(.lit (.int 200))] [.ite (.cmp .eq (.var 1) (.lit (.int 0))) [.ret (.var 0)] [], .par [0, 1] [(.var 1), (.bin .mod (.bi .int [(.var 0)]) (.bi .int [(.var 1)]))]], .ret (.var 0)]⟩
def llcm (c_law_gcd : Nat) : Df := ⟨2, [.ret (.bin .mul (.bin .fdiv (.var 0) (.call c_law_gcd [(.var 0), (.var 1)])) (.var 1))]⟩
structure Sx where
  p : Nat
  o : Int
  l : Int
def sD (s : Sx) : D := .tuple [.int s.p, .int s.o, .int s.l]
structure SOk (s : Sx) : Prop where
  p1 : 1 ≤ s.p
  p2 : s.p ≤ 60
  o0 : 0 ≤ s.o
  o1 : s.o ≤ 100000
  l0 : 1 ≤ s.l
  l1 : s.l ≤ s.p
def tD (ss : List Sx) : List D := ss.map sD
def sx (ss : List Sx) (k : Nat) : Sx := ss[k]?.getD ⟨1, 0, 1⟩
theorem noL_sD (s : Sx) : (RV.v (sD s)).noL = true := rfl
@[simp] theorem after_sD {s : Sx} {l : List Nat} {env : En} : after (.v (sD s)) l env = env := after_noL (noL_sD s)
theorem gcd_step (a b : Nat) : Nat.gcd b (a % b) = Nat.gcd a b := by
  rw [Nat.gcd_comm b, ← Nat.gcd_rec, Nat.gcd_comm]
theorem lgcd_ok {F : FE} {a b : Nat} (hb : b ≤ 100) (ha : a ≤ 100000) : callD F lgcd [.int a, .int b] = some (.v (.int (Nat.gcd a b : Nat))) := by
  refine Rets.eq (rets_f ?_)
  unfold lgcd Wi.start
  conv => arg 5; simp -implicitDefEqProofs (disch := omega) [rng1]
  refine stp_rgn 200 (fun k e => ∃ (a' b' : Nat) (s2 : Sl), e = [.v (.int a'), .v (.int b'), s2] ∧ Nat.gcd a' b' = Nat.gcd a b ∧ b' + k ≤ 100) (by omega) ⟨a, b, _, rfl, rfl, by omega⟩ ?_ ?_
  · rintro k e hk ⟨a', b', s2, rfl, hg, hbk⟩
    by_cases h0 : b' = 0
    · subst h0
      rw [Nat.gcd_zero_right] at hg
      conv => arg 5; simp -implicitDefEqProofs
      exact stp_rt.mpr (by rw [hg])
    · have hlt := Nat.mod_lt a' (show b' > 0 by omega)
      obtain ⟨r, hr⟩ : ∃ r : Nat, r = a' % b' := ⟨_, rfl⟩
      have hm : (a' : Int) % (b' : Int) = r := by rw [hr, Int.natCast_emod]
      rw [← hr] at hlt
      conv => arg 5; simp -implicitDefEqProofs (disch := omega) [h0, o2_mod, hm]
      exact stp_nx.mpr ⟨b', r, _, rfl, by rw [hr, gcd_step]; exact hg, by omega⟩
  · rintro e ⟨a', b', s2, rfl, hg, hbk⟩
    omega
def lcmN (a b : Nat) : Nat := a / Nat.gcd a b * b
theorem llcm_ok {F : FE} {ig : Nat} {a b : Nat} (ha0 : 0 < a) (hb : b ≤ 100) (ha : a ≤ 100000) (hg : F ig [.int a, .int b] = some (.v (.int (Nat.gcd a b : Nat)))) : callD F (llcm ig) [.int a, .int b] = some (.v (.int (lcmN a b : Nat))) := by
  have g0 : 0 < Nat.gcd a b := Nat.gcd_pos_of_pos_left _ ha0
  have g1 : Nat.gcd a b ≤ a := Nat.le_of_dvd ha0 (Nat.gcd_dvd_left _ _)
  have e : ((lcmN a b : Nat) : Int) = (a : Int) / ((Nat.gcd a b : Nat) : Int) * b := by
    unfold lcmN
    rw [Int.natCast_mul, Int.natCast_ediv]
  rw [callD_eq]
  unfold llcm Wi.start
  rw [e]
  simp -implicitDefEqProofs (disch := omega) [hg, o2_fdiv, o2_mul]
section
variable {F : FE} {ss : List Sx} {ia : Nat} (hss : ∀ s ∈ ss, SOk s) (hl : ss.length ≤ 20)
include hss hl
end
end Wc

namespace Wc
open PySem Wi Wp
theorem bez (a b : Nat) : ∃ x y : Int, x * a + y * b = ((Nat.gcd a b : Nat) : Int) := by
  induction a, b using Nat.gcd.induction with
  | H0 n => exact ⟨0, 1, by simp⟩
  | H1 m n hm ih =>
    obtain ⟨x, y, e⟩ := ih
    refine ⟨y - x * (n / m : Nat), x, ?_⟩
    rw [Nat.gcd_rec, ← e]
    have h : (n : Int) = ((n % m : Nat) : Int) + (m : Int) * ((n / m : Nat) : Int) := by
      rw [← Int.natCast_mul, ← Int.natCast_add, Nat.mod_add_div]
    rw [Int.sub_mul]
    conv => lhs; rhs; rw [h, Int.mul_add]
    have : x * ((n / m : Nat) : Int) * (m : Int) = x * ((m : Int) * ((n / m : Nat) : Int)) := by rw [Int.mul_assoc, Int.mul_comm ((n / m : Nat) : Int)]
    omega
theorem lcm_pos {a b : Nat} (ha : 0 < a) (hb : 0 < b) : 0 < lcmN a b := by
  unfold lcmN
  exact Nat.mul_pos (Nat.div_pos (Nat.le_of_dvd ha (Nat.gcd_dvd_left _ _)) (Nat.gcd_pos_of_pos_left _ ha)) hb
def cmB (s t : Sx) (b : Int) : Bool := decide ((b - s.o) % (s.p : Int) < s.l) && decide ((b - t.o) % (t.p : Int) < t.l)
def ff (P : Nat → Bool) : Nat → Nat → Option Nat
  | 0, _ => none
  | n + 1, k => if P k then some k else ff P n (k + 1)
def mO (s t : Sx) : Int := max s.o t.o
def fcI (s t : Sx) : Option Nat := ff (fun i => cmB s t (mO s t + (i : Int))) (lcmN s.p t.p) 0
end Wc

namespace Wc
open PySem Wi Wp
def fO (s t : Sx) : Option Int := (fcI s t).map fun i => mO s t + (i : Int)
end Wc

namespace Wc
open PySem Wi Wp
section
variable {F : FE} {ss : List Sx} {ia ic : Nat} (hss : ∀ s ∈ ss, SOk s) (hl : ss.length ≤ 20)
include hss hl
end
end Wc

namespace Wc
open PySem Wi Wp
def bD (bs : List Bool) : List D := bs.map .bool
theorem bD_len (bs : List Bool) : (bD bs).length = bs.length := List.length_map ..
end Wc

namespace Wc
open PySem Wi Wp
theorem compL_flt {f : D → Option (Option D)} {g : Nat → D} {c : Nat → Bool} {h : Nat → D} : ∀ (xs : List Nat), (∀ x ∈ xs, f (h x) = some (if c x = true then some (g x) else none)) → compL f (xs.map h) = some ((xs.filter c).map g)
  | [], _ => rfl
  | x :: r, hx => by
    rw [List.map_cons, compL, hx x List.mem_cons_self, compL_flt r fun y hy => hx y (List.mem_cons_of_mem _ hy)]
    cases e : c x with
    | true => rw [List.filter_cons_of_pos e]; rfl
    | false => rw [List.filter_cons_of_neg (by rw [e]; decide)]; rfl
theorem comp_rgf {F : FE} {elt : E} {t : Tg} {vars : List Nat} {cond : Option E} {env : En} {lo : Int} {n : Nat} (g : Nat → D) (c : Nat → Bool) (hn : n ≤ 10000000) (h : ∀ k : Nat, k < n → compF F elt t vars cond env (.int (lo + k)) = some (if c k = true then some (g k) else none)) :
    compR (compF F elt t vars cond env) (some (rg lo n)) = some (.l (((List.range n).filter c).map g)) := by
  rw [compR_s (by rw [rg_len]; exact hn)]
  unfold rg
  rw [compL_flt (h := fun k => PyData.int (lo + (k : Int))) (g := g) (c := c) (List.range n) fun x hx => h x (List.mem_range.mp hx)]
  rfl
theorem noLs_b : ∀ bs : List Bool, noLs (bD bs) = true
  | [] => rfl
  | _ :: r => noLs_b r
@[simp] theorem after_b {bs : List Bool} {l : List Nat} {env : En} : after (.l (bD bs)) l env = env := after_noL (noLs_b bs)
structure Fam (base many : Nat) (s : Sx) : Prop where
  ok : SOk s
  pb : s.p ∣ base
  o2 : s.o ≤ 60
  w : base / s.p * s.l.toNat ≤ base / many
end Wc

namespace Wc
open PySem Wi Wp
theorem noLs_t : ∀ ss : List Sx, noLs (tD ss) = true
  | [] => rfl
  | _ :: r => noLs_t r
@[simp] theorem after_t {ss : List Sx} {l : List Nat} {env : En} : after (.l (tD ss)) l env = env := after_noL (noLs_t ss)
@[simp] theorem after_tt {ss : List Sx} {l : List Nat} {env : En} : after (.v (.tuple (tD ss))) l env = env := after_noL (noLs_t ss)
section
variable {F : FE} {row : List Int} {c : Nat → Int} {K : Nat} (hc : ∀ k, k < K → nth row k = some (c k)) (hb : ∀ k, 0 ≤ c k ∧ c k < 1000003) (hK : K ≤ 1000)
include hc hb hK
end
end Wc

namespace Wc
open PySem Wi Wp
end Wc

namespace Wc
open PySem Wi Wp
end Wc

namespace Wc
open PySem Wi Wp
end Wc

namespace Wc
open PySem Wi Wp
end Wc

namespace Wc
open PySem Wi Wp
section
variable {F : FE} {row : List Int} {c : Nat → Int} {K : Nat} (hc : ∀ k, k < K → nth row k = some (c k)) (hb : ∀ k, 0 ≤ c k ∧ c k < 1000003) (hK : K ≤ 1000)
include hc hb hK
end
end Wc

namespace Wc
open PySem Wi Wp
end Wc

namespace Wc
open PySem Wi Wp
end Wc

namespace Wc
open PySem Wi Wp
def flB (g : Nat) (s : Sx) (j r : Nat) : Bool := (List.range j).any fun k => decide ((s.o + (k : Int)) % (g : Int) = (r : Int))
def fl (p : Nat) (s : Sx) : List Bool := (List.range (Nat.gcd p s.p)).map (flB (Nat.gcd p s.p) s (min (Nat.gcd p s.p) s.l.toNat))
end Wc

namespace Wc
open PySem Wi Wp
def dx (k i : Nat) : Nat := if i < k then i else i + 1
end Wc

namespace Wp
open PySem Wi
def chnB (o p : Cm) (a b c : Option RV) : Option Bool := match a, b with
  | some x, some y => (match cm o x.d y.d with
    | some true => cmR p (some y) c
    | some false => some false
    | none => none)
  | _, _ => none
section
variable {F : FE} {env : En} {a b c : E} {o p : Cm}
@[simp] theorem p_t_chn : dnT F (.chn o p a b c) env = chnB o p (dnE F a env) (dnE F b env) (dnE F c env) := by
  show ((dnE F a env).bind fun x => (dnE F b env).bind fun y => (cm o x.d y.d).bind fun k => if k = true then (dnE F c env).bind fun z => cm p y.d z.d else some false) = _
  cases dnE F a env <;> cases dnE F b env <;> try rfl
  rename_i x y
  show ((cm o x.d y.d).bind fun k => if k = true then (dnE F c env).bind fun z => cm p y.d z.d else some false) = (match cm o x.d y.d with | some true => cmR p (some y) (dnE F c env) | some false => some false | none => none)
  cases cm o x.d y.d with
  | none => rfl
  | some k =>
    cases k with
    | false => rfl
    | true => cases dnE F c env <;> rfl
@[simp] theorem p_e_chn : dnE F (.chn o p a b c) env = bR (chnB o p (dnE F a env) (dnE F b env) (dnE F c env)) := by
  show ((dnE F a env).bind fun x => (dnE F b env).bind fun y => (cm o x.d y.d).bind fun k => if k = true then (dnE F c env).bind fun z => (cm p y.d z.d).map fun c => RV.v (.bool c) else some (.v (.bool false))) = _
  cases dnE F a env <;> cases dnE F b env <;> try rfl
  rename_i x y
  show ((cm o x.d y.d).bind fun k => if k = true then (dnE F c env).bind fun z => (cm p y.d z.d).map fun c => RV.v (.bool c) else some (.v (.bool false))) = bR (match cm o x.d y.d with | some true => cmR p (some y) (dnE F c env) | some false => some false | none => none)
  cases cm o x.d y.d with
  | none => rfl
  | some k =>
    cases k with
    | false => rfl
    | true =>
      cases dnE F c env with
      | none => rfl
      | some z =>
        show (cm p y.d z.d).map _ = bR (cm p y.d z.d)
        cases cm p y.d z.d <;> rfl
end
theorem chnB_s {o p : Cm} {x y z : RV} {k : Bool} (h : cm o x.d y.d = some k) : chnB o p (some x) (some y) (some z) = andB (some k) (cm p y.d z.d) := by
  show (match cm o x.d y.d with | some true => cmR p (some y) (some z) | some false => some false | none => none) = _
  rw [h]
  cases k <;> rfl
@[simp] theorem chnB_ll {i j k : Int} : chnB .le .lt (some (.v (.int i))) (some (.v (.int j))) (some (.v (.int k))) = some (decide (i ≤ j ∧ j < k)) := by
  rw [chnB_s (k := decide (i ≤ j)) rfl]
  by_cases h : i ≤ j
  · rw [decide_eq_true h]
    show some (decide (j < k)) = _
    simp [h]
  · rw [decide_eq_false h]
    show some false = _
    simp [h]
end Wp
namespace Wc
open PySem Wi Wp
def oDs (ps : List (Option Int)) : List D := ps.map oD
@[simp] theorem oDs_len (ps : List (Option Int)) : (oDs ps).length = ps.length := List.length_map ..
theorem oDs_nth {ps : List (Option Int)} {k : Nat} {o : Option Int} (h : ps[k]? = some o) : nth (oDs ps) k = some (oD o) := by
  unfold nth oDs
  rw [List.getElem?_map, h]; rfl
theorem oDs_set {ps : List (Option Int)} {k : Nat} {o : Option Int} : (oDs ps).set k (oD o) = oDs (ps.set k o) := by unfold oDs; rw [List.map_set]
theorem noLs_oDs : ∀ ps : List (Option Int), noLs (oDs ps) = true
  | [] => rfl
  | o :: r => by
    show (noL (oD o) && noLs (oDs r)) = true
    rw [noL_oD, noLs_oDs r]; rfl
@[simp] theorem after_oD {o : Option Int} {l : List Nat} {env : En} : after (.v (oD o)) l env = env := after_noL (noL_oD o)
@[simp] theorem after_oDs {ps : List (Option Int)} {l : List Nat} {env : En} : after (.l (oDs ps)) l env = env := after_noL (noLs_oDs ps)
@[simp] theorem after_toDs {ps : List (Option Int)} {l : List Nat} {env : En} : after (.v (.tuple (oDs ps))) l env = env := after_noL (noLs_oDs ps)
/-- the numbers in a window -/
def win (s m : Int) (b : Int) : Bool := decide (s ≤ b ∧ b < s + m)
def gA (A : List Int) (w : Nat) : Int := A[w]?.getD 0
structure KP (A : List Int) (ps : List (Option Int)) (r : Nat) (m number : Int) : Prop where
  young : ∀ w, w < A.length → gA A w ≤ number → ∃ b, ps[w]? = some (some b) ∧ b < gA A w
  span : ∀ s ∈ ps.filterMap id, (ps.filterMap id).countP (win s m) ≤ r
section
variable {A : List Int} {r m : Nat} {number : Int}
end
end Wc

namespace Wc
open PySem Wi Wp
def lages90 : Df := ⟨5, [.ret (.bi .tuple [(.comp (.bin .add (.lit (.int 1)) (.bin .mod (.bi .int [(.ix (.var 0) (.bin .add (.var 1) (.var 4)))]) (.var 3))) (.n 4) .rng [(.var 2)] [4] none)])]⟩
@[simp] theorem enum_t {xs : List D} : srcs .enum [.tuple xs] = some (xs.zipIdx.map fun p => .tuple [.int (p.2 : Nat), p.1]) := rfl
@[simp] theorem zip_t {xs ys : List D} : srcs .zip [.tuple xs, .tuple ys] = some ((xs.zip ys).map fun p => .tuple [p.1, p.2]) := rfl
theorem noLs_pq : ∀ ps : List (Int × Int), noLs (ps.map pqD) = true
  | [] => rfl
  | _ :: r => noLs_pq r
@[simp] theorem after_pq {ps : List (Int × Int)} {l : List Nat} {env : En} : after (.l (ps.map pqD)) l env = env := after_noL (noLs_pq ps)
section
variable {F : FE} {A : List Int} {r m : Nat} {number : Int} (hA : 1 ≤ A.length) (hl : A.length ≤ 100) (hr : 1 ≤ r) (hr2 : r ≤ 100) (hm : m ≤ 1000)
include hA hl hr hr2 hm
end
section
variable {F : FE} {A : List Int} {ps : List (Option Int)} {r m : Nat} {number : Int} (hp : ps.length = A.length) (hl : A.length ≤ 100) (hr : 1 ≤ r) (hm : 1 ≤ m)
include hp hl hr hm
end
end Wc

namespace Wc
open PySem Wi Wp
section
variable {F : FE} {row : List Int} {c : Nat → Int} {K : Nat} (hc : ∀ k, k < K → nth row k = some (c k)) (hb : ∀ k, 0 ≤ c k ∧ c k < 1000003) (hK : K ≤ 1000)
include hc hb hK
theorem ages_ok {a many : Nat} {top : Int} (ht : 1 ≤ top) (ht2 : top ≤ 60) (ha : a + many ≤ K) : ∃ A, callD F lages90 [.list (iD row), .int a, .int many, .int top] = some (.v (.tuple (iD A))) ∧ A.length = many ∧ ∀ x ∈ A, 1 ≤ x ∧ x ≤ 60 := by
  refine ⟨(List.range many).map fun k => 1 + c (a + k) % top, ?_, by simp, fun x hx => ?_⟩
  · refine Rets.eq (rets_f ?_)
    unfold lages90 Wi.start
    conv => arg 5; simp -implicitDefEqProofs (disch := omega) [rng1]
    rw [comp_rg (fun k => .int (1 + c (a + k) % top)) (by omega) fun k hk => by
      have h1 := hc (a + k) (by omega)
      have t0 : ((a : Int) + (k : Int)).toNat = a + k := by omega
      simp -implicitDefEqProofs (disch := omega) [item_l, t0, h1, o2_mod]]
    have hi : (List.range many).map (fun k => PyData.int (1 + c (a + k) % top)) = iD ((List.range many).map fun k => 1 + c (a + k) % top) := by unfold iD; rw [List.map_map]; rfl
    rw [hi]
    conv => arg 5; simp -implicitDefEqProofs
    exact stp_rt.mpr rfl
  · obtain ⟨k, _, rfl⟩ := List.mem_map.mp hx
    have := hb (a + k)
    have h1 := Int.emod_nonneg (c (a + k)) (show top ≠ 0 by omega)
    have h2 := Int.emod_lt_of_pos (c (a + k)) (show 0 < top by omega)
    omega
end
end Wc

namespace Wc
open PySem Wi Wp
structure Sm where
  p : Nat
  o : Nat
structure SmOk (s : Sm) : Prop where
  p1 : 1 ≤ s.p
  p2 : s.p ≤ 30
  o : s.o < s.p
def smD (s : Sm) : D := .tuple [.int s.p, .int s.o]
def chD (ch : List Sm) : List D := ch.map smD
def smp (ch : List Sm) (k : Nat) : Sm := ch[k]?.getD ⟨1, 0⟩
theorem chD_len (ch : List Sm) : (chD ch).length = ch.length := by unfold chD; rw [List.length_map]
theorem smp_get {ch : List Sm} {k : Nat} (h : k < ch.length) : smp ch k = ch[k] := by unfold smp; rw [List.getElem?_eq_getElem h]; rfl
theorem chD_nth {ch : List Sm} {k : Nat} (h : k < ch.length) : nth (chD ch) k = some (.tuple [.int (smp ch k).p, .int (smp ch k).o]) := by
  unfold nth chD
  rw [List.getElem?_map, List.getElem?_eq_getElem h, smp_get h]; rfl
theorem smp_mem {ch : List Sm} {k : Nat} (h : k < ch.length) : smp ch k ∈ ch := by rw [smp_get h]; exact List.getElem_mem h
/-- the latest act up to b -/
def act (s : Sm) (b : Int) : Int := b - (b - s.o) % (s.p : Int)
theorem act_le {s : Sm} (ok : SmOk s) (b : Int) : b - s.p < act s b ∧ act s b ≤ b := by
  have p1 := ok.p1
  have h1 := Int.emod_nonneg (b - s.o) (show (s.p : Int) ≠ 0 by omega)
  have h2 := Int.emod_lt_of_pos (b - s.o) (show 0 < (s.p : Int) by omega)
  unfold act
  omega
theorem act_mod {s : Sm} (b : Int) : (act s b - s.o) % (s.p : Int) = 0 := by
  unfold act
  have e := Int.mul_ediv_add_emod (b - s.o) (s.p : Int)
  rw [show b - (b - s.o) % (s.p : Int) - s.o = (s.p : Int) * ((b - s.o) / (s.p : Int)) by omega, Int.mul_emod_right]
theorem act_fix {s : Sm} {b : Int} (h : (b - s.o) % (s.p : Int) = 0) : act s b = b := by unfold act; omega
theorem act_add {s : Sm} {b : Int} {P : Nat} (h : s.p ∣ P) (k : Int) : act s (b + k * (P : Int)) = act s b + k * (P : Int) := by
  obtain ⟨c, rfl⟩ := h
  unfold act
  rw [show b + k * ((s.p * c : Nat) : Int) - s.o = (b - s.o) + (s.p : Int) * (k * c) by rw [Int.natCast_mul, ← Int.mul_assoc k, Int.mul_comm k, Int.mul_assoc]; omega, Int.add_mul_emod_self_left]
  omega
theorem act_prev {s : Sm} (ok : SmOk s) {b : Int} (h : (b - s.o) % (s.p : Int) ≠ 0) : act s b = act s (b - 1) := by
  have p1 := ok.p1
  have h1 := Int.emod_nonneg (b - s.o) (show (s.p : Int) ≠ 0 by omega)
  have h2 := Int.emod_lt_of_pos (b - s.o) (show 0 < (s.p : Int) by omega)
  have e := Int.mul_ediv_add_emod (b - s.o) (s.p : Int)
  unfold act
  have : (b - 1 - s.o) % (s.p : Int) = (b - s.o) % (s.p : Int) - 1 := by
    rw [show b - 1 - s.o = ((b - s.o) % (s.p : Int) - 1) + (s.p : Int) * ((b - s.o) / (s.p : Int)) by omega, Int.add_mul_emod_self_left, Int.emod_eq_of_lt (by omega) (by omega)]
  omega
def src (ch : List Sm) (b : Int) : Int := ch.foldr act b
theorem src_snoc {ch : List Sm} {k : Nat} (h : k < ch.length) (b : Int) : src (ch.take (k + 1)) b = src (ch.take k) (act (smp ch k) b) := by
  unfold src
  rw [List.take_add_one, List.getElem?_eq_getElem h, List.foldr_append, smp_get h]; rfl
theorem src_drop {ch : List Sm} {k : Nat} (h : k < ch.length) (b : Int) : src (ch.drop k) b = act (smp ch k) (src (ch.drop (k + 1)) b) := by
  rw [List.drop_eq_getElem_cons h, smp_get h]; rfl
theorem src_add {ch : List Sm} {P : Nat} (h : ∀ s ∈ ch, s.p ∣ P) (b k : Int) : src ch (b + k * (P : Int)) = src ch b + k * (P : Int) := by
  induction ch with
  | nil => rfl
  | cons s r ih =>
    show act s (src r _) = act s (src r b) + _
    rw [ih fun x hx => h x (List.mem_cons_of_mem _ hx), act_add (h s List.mem_cons_self)]
theorem src_le {ch : List Sm} (h : ∀ s ∈ ch, SmOk s) (b : Int) : src ch b ≤ b := by
  induction ch with
  | nil => exact Int.le_refl _
  | cons s r ih =>
    have h1 := ih fun x hx => h x (List.mem_cons_of_mem _ hx)
    have h2 := (act_le (h s List.mem_cons_self) (src r b)).2
    show act s (src r b) ≤ b
    omega
theorem act_act {s : Sm} (b : Int) : act s (act s b) = act s b := act_fix (act_mod b)
theorem src_act {ch : List Sm} (hn : 0 < ch.length) (b : Int) : src ch (act (smp ch (ch.length - 1)) b) = src ch b := by
  have e : ch = ch.take (ch.length - 1 + 1) := by rw [show ch.length - 1 + 1 = ch.length by omega, List.take_length]
  have h1 := src_snoc (ch := ch) (k := ch.length - 1) (by omega) (act (smp ch (ch.length - 1)) b)
  have h2 := src_snoc (ch := ch) (k := ch.length - 1) (by omega) b
  rw [← e] at h1 h2
  rw [h1, h2, act_act]
/-- the sum of periods less one -/
def sw (ch : List Sm) (k : Nat) : Int := ((ch.take k).map fun s => (s.p : Int) - 1).sum
theorem sw_s {ch : List Sm} {k : Nat} (h : k < ch.length) : sw ch (k + 1) = sw ch k + ((smp ch k).p - 1) := by
  unfold sw
  rw [List.take_add_one, List.getElem?_eq_getElem h, List.map_append, List.sum_append, smp_get h]; simp
theorem sum_sw (ch : List Sm) : (ch.map fun s => (s.p : Int)).sum = sw ch ch.length + ch.length := by
  unfold sw
  rw [List.take_length]
  induction ch with
  | nil => rfl
  | cons s r ih => rw [List.map_cons, List.sum_cons, List.map_cons, List.sum_cons, ih, List.length_cons]; omega
def spn (ch : List Sm) : Nat := ch.foldl (fun a s => Nat.lcm a s.p) 1
theorem spn_snoc {ch : List Sm} {s : Sm} : spn (ch ++ [s]) = Nat.lcm (spn ch) s.p := by unfold spn; rw [List.foldl_append]; rfl
theorem spn_take {ch : List Sm} {k : Nat} (h : k < ch.length) : spn (ch.take (k + 1)) = Nat.lcm (spn (ch.take k)) (smp ch k).p := by
  rw [List.take_add_one, List.getElem?_eq_getElem h, smp_get h]; exact spn_snoc
theorem spn_step (ch : List Sm) {k : Nat} : spn (ch.take k) ∣ spn (ch.take (k + 1)) := by
  by_cases h : k < ch.length
  · rw [spn_take h]; exact Nat.dvd_lcm_left _ _
  · rw [List.take_of_length_le (by omega), List.take_of_length_le (by omega)]; exact Nat.dvd_refl _
theorem spn_mono (ch : List Sm) {i : Nat} : ∀ {j : Nat}, i ≤ j → spn (ch.take i) ∣ spn (ch.take j)
  | 0, h => by
    have : i = 0 := by omega
    subst this; exact Nat.dvd_refl _
  | j + 1, h => by
    by_cases z : i = j + 1
    · subst z; exact Nat.dvd_refl _
    · exact Nat.dvd_trans (spn_mono ch (by omega)) (spn_step ch)
theorem spn_all {ch : List Sm} : ∀ s ∈ ch, s.p ∣ spn ch := fun s hs => by
  obtain ⟨k, hk, rfl⟩ := List.getElem_of_mem hs
  have h1 : (smp ch k).p ∣ spn (ch.take (k + 1)) := by rw [spn_take hk]; exact Nat.dvd_lcm_right _ _
  have h2 := spn_mono ch (show k + 1 ≤ ch.length by omega)
  rw [List.take_length] at h2
  rw [smp_get hk] at h1
  exact Nat.dvd_trans h1 h2
theorem spn_pos {ch : List Sm} (h : ∀ s ∈ ch, SmOk s) : ∀ k, 1 ≤ spn (ch.take k)
  | 0 => Nat.le_refl _
  | k + 1 => by
    by_cases z : k < ch.length
    · rw [spn_take z]
      exact Nat.lcm_pos (spn_pos h k) (h _ (smp_mem z)).p1
    · have := spn_pos h k
      rw [List.take_of_length_le (by omega)] at this ⊢
      exact this
theorem spn_le {ch : List Sm} (h : ∀ s ∈ ch, SmOk s) (k : Nat) : spn (ch.take k) ≤ spn ch := by
  have h1 := spn_pos h ch.length
  rw [List.take_length] at h1
  by_cases z : k ≤ ch.length
  · have h2 := spn_mono ch z
    rw [List.take_length] at h2
    exact Nat.le_of_dvd h1 h2
  · rw [List.take_of_length_le (by omega)]; exact Nat.le_refl _
theorem lcmN_eq {a b : Nat} (ha : 0 < a) : lcmN a b = Nat.lcm a b := by
  unfold lcmN Nat.lcm
  obtain ⟨c, hc⟩ := Nat.gcd_dvd_left a b
  have g0 : 0 < Nat.gcd a b := Nat.gcd_pos_of_pos_left _ ha
  have e1 : a / Nat.gcd a b = c := by
    conv => lhs; lhs; rw [hc]
    exact Nat.mul_div_cancel_left _ g0
  rw [e1]
  conv => rhs; lhs; lhs; rw [hc]
  rw [Nat.mul_assoc, Nat.mul_div_cancel_left _ g0]
theorem acts_eq {p o q : Nat} (p1 : 1 ≤ p) (ho : o < p) : (List.range (p * q)).filter (fun (b : Nat) => decide (((b : Int) - (o : Int)) % (p : Int) = 0)) = (List.range q).map (fun (k : Nat) => o + k * p) := by
  have hmem : ∀ b : Nat, ((b : Int) - (o : Int)) % (p : Int) = 0 ∧ b < p * q ↔ ∃ k, k < q ∧ o + k * p = b := fun b => by
    constructor
    · rintro ⟨h1, h2⟩
      obtain ⟨c, hc⟩ := Int.dvd_of_emod_eq_zero h1
      have c0 : 0 ≤ c := by
        rcases Int.lt_or_le c 0 with z | z
        · have : (p : Int) * c ≤ (p : Int) * (-1) := Int.mul_le_mul_of_nonneg_left (by omega) (by omega)
          omega
        · exact z
      refine ⟨c.toNat, ?_, ?_⟩
      · have h3 : p * c.toNat < p * q := by
          have : ((p * c.toNat : Nat) : Int) = (p : Int) * c := by rw [Int.natCast_mul]; congr 1; omega
          omega
        exact Nat.lt_of_mul_lt_mul_left h3
      · have : ((c.toNat * p : Nat) : Int) = (p : Int) * c := by rw [Int.natCast_mul, Int.mul_comm]; congr 1; omega
        omega
    · rintro ⟨k, hk, rfl⟩
      refine ⟨?_, ?_⟩
      · rw [show (((o + k * p : Nat) : Int) - (o : Int)) = (p : Int) * k by rw [Int.natCast_add, Int.natCast_mul, Int.mul_comm]; omega, Int.mul_emod_right]
      · have : (k + 1) * p ≤ q * p := Nat.mul_le_mul_right _ hk
        rw [Nat.add_mul] at this
        rw [Nat.mul_comm p q]
        omega
  have s1 : ((List.range (p * q)).filter fun (b : Nat) => decide (((b : Int) - (o : Int)) % (p : Int) = 0)).Pairwise (· < ·) := List.pairwise_lt_range.filter _
  have s2 : ((List.range q).map fun (k : Nat) => o + k * p).Pairwise (· < ·) := by
    rw [List.pairwise_map]
    refine List.pairwise_lt_range.imp fun {a b} h => ?_
    have : (a + 1) * p ≤ b * p := Nat.mul_le_mul_right _ h
    rw [Nat.add_mul] at this
    omega
  have hp : ((List.range (p * q)).filter fun (b : Nat) => decide (((b : Int) - (o : Int)) % (p : Int) = 0)).Perm ((List.range q).map fun (k : Nat) => o + k * p) := by
    refine (List.perm_ext_iff_of_nodup (s1.imp fun {a b} h => Nat.ne_of_lt h) (s2.imp fun {a b} h => Nat.ne_of_lt h)).mpr fun b => ?_
    rw [List.mem_filter, List.mem_map, List.mem_range, decide_eq_true_eq]
    rw [and_comm, hmem b]
    constructor
    · rintro ⟨k, hk, e⟩; exact ⟨k, List.mem_range.mpr hk, e⟩
    · rintro ⟨k, hk, e⟩; exact ⟨k, List.mem_range.mp hk, e⟩
  exact hp.eq_of_pairwise (fun a b _ _ h1 h2 => by omega) s1 s2
def gaI (ch : List Sm) : Int := mxI ((List.range (spn ch / (smp ch (ch.length - 1)).p)).map fun (k : Nat) => (((smp ch (ch.length - 1)).o : Int) + (k : Int) * (smp ch (ch.length - 1)).p) - src ch (((smp ch (ch.length - 1)).o : Int) + (k : Int) * (smp ch (ch.length - 1)).p))
section
variable {ch : List Sm} (hok : ∀ s ∈ ch, SmOk s) (hn : 0 < ch.length)
include hok hn
theorem last_div : ∃ q, 1 ≤ q ∧ spn ch = (smp ch (ch.length - 1)).p * q ∧ spn ch / (smp ch (ch.length - 1)).p = q := by
  have ok := hok _ (smp_mem (show ch.length - 1 < ch.length by omega))
  obtain ⟨q, hq⟩ := spn_all _ (smp_mem (show ch.length - 1 < ch.length by omega))
  have h1 := spn_pos hok ch.length
  rw [List.take_length] at h1
  refine ⟨q, ?_, hq, ?_⟩
  · rcases Nat.eq_zero_or_pos q with z | z
    · rw [z, Nat.mul_zero] at hq; omega
    · exact z
  · rw [hq, Nat.mul_div_cancel_left _ ok.p1]
/-- the ages held over one span -/
theorem held_max : mxI ((List.range (spn ch)).map fun (b : Nat) => (b : Int) - src ch (b : Int)) = gaI ch + (smp ch (ch.length - 1)).p - 1 := by
  obtain ⟨q, q1, hq, hq2⟩ := last_div hok hn
  have ok := hok _ (smp_mem (show ch.length - 1 < ch.length by omega))
  have hact := src_act hn
  have hP : ∀ (b k : Int), src ch (b + k * ((spn ch : Nat) : Int)) = src ch b + k * ((spn ch : Nat) : Int) := src_add spn_all
  have hg : gaI ch = mxI ((List.range q).map fun (k : Nat) => (((smp ch (ch.length - 1)).o : Int) + (k : Int) * (smp ch (ch.length - 1)).p) - src ch (((smp ch (ch.length - 1)).o : Int) + (k : Int) * (smp ch (ch.length - 1)).p)) := by
    unfold gaI; rw [hq2]
  generalize smp ch (ch.length - 1) = s at *
  have p1 := ok.p1
  have ho := ok.o
  have hL : ((List.range q).map fun (k : Nat) => ((s.o : Int) + (k : Int) * s.p) - src ch ((s.o : Int) + (k : Int) * s.p)) ≠ [] := by
    intro z
    rw [List.map_eq_nil_iff, List.range_eq_nil] at z
    omega
  have hmem := mxI_mem _ hL
  have hge : ∀ k : Nat, k < q → ((s.o : Int) + (k : Int) * s.p) - src ch ((s.o : Int) + (k : Int) * s.p) ≤ gaI ch := fun k hk => by
    rw [hg]
    exact mxI_ge (List.mem_map.mpr ⟨k, List.mem_range.mpr hk, rfl⟩)
  rw [← hg] at hmem
  have hPc : ((spn ch : Nat) : Int) = (s.p : Int) * (q : Int) := by rw [hq, Int.natCast_mul]
  -- an act within one span of the first
  have hact2 : ∀ b : Int, (s.o : Int) ≤ b → b < (s.o : Int) + (s.p : Int) * q → ∃ k : Nat, k < q ∧ act s b = (s.o : Int) + (k : Int) * s.p := fun b h1 h2 => by
    have e := Int.mul_ediv_add_emod (b - s.o) (s.p : Int)
    have r0 := Int.emod_nonneg (b - s.o) (show (s.p : Int) ≠ 0 by omega)
    have d0 : 0 ≤ (b - s.o) / (s.p : Int) := Int.ediv_nonneg (by omega) (by omega)
    have d1 : (b - s.o) / (s.p : Int) < q := by
      refine Int.ediv_lt_of_lt_mul (by omega) ?_
      rw [Int.mul_comm]; omega
    refine ⟨((b - s.o) / (s.p : Int)).toNat, by omega, ?_⟩
    unfold act
    rw [show ((((b - s.o) / (s.p : Int)).toNat : Nat) : Int) = (b - s.o) / (s.p : Int) by omega, Int.mul_comm]
    omega
  refine mxI_eq ?_ fun x hx => ?_
  · obtain ⟨k, hk, e⟩ := List.mem_map.mp hmem
    have hk := List.mem_range.mp hk
    have hb : ∀ b : Int, act s b = (s.o : Int) + (k : Int) * s.p → b - src ch b = b - ((s.o : Int) + (k : Int) * s.p) + gaI ch := fun b h => by
      rw [← hact b, h]; omega
    have hkb : ((k + 1 : Nat) : Int) * (s.p : Int) ≤ (q : Int) * s.p := Int.mul_le_mul_of_nonneg_right (by omega) (by omega)
    have hk0 : 0 ≤ (k : Int) * (s.p : Int) := Int.mul_nonneg (by omega) (by omega)
    rw [Int.natCast_add, Int.add_mul] at hkb
    have htop : act s ((s.o : Int) + (k : Int) * s.p + s.p - 1) = (s.o : Int) + (k : Int) * s.p := by
      unfold act
      rw [show (s.o : Int) + (k : Int) * s.p + s.p - 1 - s.o = ((s.p : Int) - 1) + (s.p : Int) * k by rw [Int.mul_comm]; omega, Int.add_mul_emod_self_left, Int.emod_eq_of_lt (by omega) (by omega)]
      omega
    have hv := hb _ htop
    by_cases z : (s.o : Int) + (k : Int) * s.p + s.p - 1 < ((spn ch : Nat) : Int)
    · refine List.mem_map.mpr ⟨((s.o : Int) + (k : Int) * s.p + s.p - 1).toNat, List.mem_range.mpr (by omega), ?_⟩
      rw [show ((((s.o : Int) + (k : Int) * s.p + s.p - 1).toNat : Nat) : Int) = (s.o : Int) + (k : Int) * s.p + s.p - 1 by omega, hv]
      omega
    · rw [Int.mul_comm (q : Int)] at hkb
      refine List.mem_map.mpr ⟨((s.o : Int) + (k : Int) * s.p + s.p - 1 - ((spn ch : Nat) : Int)).toNat, List.mem_range.mpr (by omega), ?_⟩
      have h3 := hP ((s.o : Int) + (k : Int) * s.p + s.p - 1) (-1)
      rw [show ((((s.o : Int) + (k : Int) * s.p + s.p - 1 - ((spn ch : Nat) : Int)).toNat : Nat) : Int) = (s.o : Int) + (k : Int) * s.p + s.p - 1 + -1 * ((spn ch : Nat) : Int) by omega, h3]
      omega
  · obtain ⟨b, hb, rfl⟩ := List.mem_map.mp hx
    have hb := List.mem_range.mp hb
    by_cases z : (s.o : Int) ≤ b
    · obtain ⟨k, hk, e⟩ := hact2 b z (by omega)
      have h1 := hge k hk
      have h2 := act_le ok b
      rw [← hact b, e]
      rw [e] at h2
      omega
    · have hpq : (s.p : Int) * 1 ≤ (s.p : Int) * (q : Int) := Int.mul_le_mul_of_nonneg_left (by omega) (by omega)
      obtain ⟨k, hk, e⟩ := hact2 (b + 1 * ((spn ch : Nat) : Int)) (by omega) (by omega)
      have h1 := hge k hk
      have h2 := act_le ok (b + 1 * ((spn ch : Nat) : Int))
      have h3 := hP b 1
      rw [e] at h2
      have h4 := hact (b + 1 * ((spn ch : Nat) : Int))
      rw [e] at h4
      omega
end
end Wc

namespace Wc
open PySem Wi Wp
def chspan : Df := ⟨4, [.asg 1 (.lit (.int 1)), .for_ (.t [(.n 2), (.n 3)]) .val [(.var 0)] [.asg 1 (.bi .lcm [(.var 1), (.var 2)])], .ret (.var 1)]⟩
def source : Df := ⟨4, [.for_ (.t [(.n 2), (.n 3)]) .rev [(.var 0)] [.aug 1 .sub (.bin .mod (.bin .sub (.var 1) (.var 3)) (.var 2))], .ret (.var 1)]⟩
def lacts (c_span : Nat) : Df := ⟨3, [.unp [(.n 1), (.n 2)] (.ix (.var 0) (.neg (.lit (.int 1)))), .ret (.bi .lrg [(.var 2), (.bin .add (.var 2) (.call c_span [(.var 0)])), (.var 1)])]⟩
def gact (c_source c_acts : Nat) : Df := ⟨2, [.ret (.bi .mx [(.comp (.bin .sub (.var 1) (.call c_source [(.var 0), (.var 1)])) (.n 1) .val [(.call c_acts [(.var 0)])] [1] none)])]⟩
def gheld (c_greatest_act_age : Nat) : Df := ⟨1, [.ret (.bin .sub (.bin .add (.call c_greatest_act_age [(.var 0)]) (.ix (.ix (.var 0) (.neg (.lit (.int 1)))) (.lit (.int 0)))) (.lit (.int 1)))]⟩
def lchain (c_law_lcm c_law_gcd : Nat) : Df := ⟨8, [.asg 3 (.ix (.tup [(.lit (.int 8)), (.lit (.int 12)), (.lit (.int 30))]) (.bin .mod (.bi .int [(.ix (.var 0) (.var 1))]) (.lit (.int 3)))), .asg 4 (.lst []), .asg 5 (.lit (.int 1)), .for_ (.n 6) .rng [(.bin .add (.lit (.int 1)) (.bin .mod (.bi .int [(.ix (.var 0) (.bin .add (.var 1) (.lit (.int 1))))]) (.lit (.int 6))))] [.asg 7 (.bin .add (.lit (.int 1)) (.bin .mod (.bi .int [(.ix (.var 0) (.bin .add (.bin .add (.var 1) (.lit (.int 2))) (.bin .mul (.lit (.int 2)) (.var 6))))]) (.var 3))), .ite (.cmp .gt (.call c_law_lcm [(.var 5), (.var 7)]) (.var 2)) [.asg 7 (.call c_law_gcd [(.var 7), (.var 5)])] [], .asg 5 (.call c_law_lcm [(.var 5), (.var 7)]), .app 4 (.tup [(.var 7), (.bin .mod (.bi .int [(.ix (.var 0) (.bin .add (.bin .add (.var 1) (.lit (.int 3))) (.bin .mul (.lit (.int 2)) (.var 6))))]) (.var 7))])], .ret (.bi .tuple [(.var 4)])]⟩
def lchspan (c_law_lcm : Nat) : Df := ⟨4, [.asg 1 (.lit (.int 1)), .for_ (.t [(.n 2), (.n 3)]) .val [(.var 0)] [.asg 1 (.call c_law_lcm [(.var 1), (.var 2)])], .ret (.var 1)]⟩
def lheld86 : Df := ⟨11, [.asg 2 (.neg (.bi .sum [(.comp (.var 3) (.t [(.n 3), (.n 4)]) .val [(.var 0)] [3, 4] none)])), .asg 5 (.comp (.lit .none) (.n 10) .val [(.var 0)] [10] none), .asg 6 (.lst []), .for_ (.n 7) .rng [(.var 2), (.var 1)] [.asg 8 (.var 7), .for_ (.n 9) .rng [(.bi .len [(.var 0)])] [.unp [(.n 3), (.n 4)] (.ix (.var 0) (.var 9)), .ite (.cmp .eq (.bin .mod (.bi .int [(.bin .sub (.var 7) (.var 4))]) (.var 3)) (.lit (.int 0))) [.seti 5 (.var 9) (.var 8)] [], .asg 8 (.ix (.var 5) (.var 9))], .ite (.cmp .ge (.var 7) (.lit (.int 0))) [.app 6 (.ix (.var 5) (.neg (.lit (.int 1))))] []], .ret (.var 6)]⟩
@[simp] theorem srcs_revt {xs : List D} : srcs .rev [.tuple xs] = some xs.reverse := rfl
theorem noLs_ch : ∀ ch : List Sm, noLs (chD ch) = true
  | [] => rfl
  | _ :: r => noLs_ch r
@[simp] theorem after_ch {ch : List Sm} {l : List Nat} {env : En} : after (.l (chD ch)) l env = env := after_noL (noLs_ch ch)
@[simp] theorem after_tch {ch : List Sm} {l : List Nat} {env : En} : after (.v (.tuple (chD ch))) l env = env := after_noL (noLs_ch ch)
theorem ch_get {ch : List Sm} {k : Nat} {x : D} (h : (chD ch)[k]? = some x) : k < ch.length ∧ x = .tuple [.int (smp ch k).p, .int (smp ch k).o] := by
  have hk : k < ch.length := by
    have := (List.getElem?_eq_some_iff.mp h).1
    rw [chD_len] at this; exact this
  have h2 := chD_nth hk
  unfold nth at h2
  rw [h2] at h
  exact ⟨hk, (Option.some.inj h).symm⟩
theorem b_lcm' {a b : Nat} (h : a < 4611686018427387904) (h2 : b < 4611686018427387904) : bF .lcm [.int a, .int b] = some (.v (.int (Nat.lcm a b : Nat))) := by
  show (if ((a : Int)).natAbs < 2 ^ 62 ∧ ((b : Int)).natAbs < 2 ^ 62 then some (RV.v (.int (Nat.lcm ((a : Int)).natAbs ((b : Int)).natAbs : Nat))) else none) = _
  rw [if_pos (by omega)]
  rfl
theorem lgcd2_ok {F : FE} {a b : Nat} (hb : b ≤ 100000) (ha : a ≤ 90) : callD F lgcd [.int a, .int b] = some (.v (.int (Nat.gcd a b : Nat))) := by
  refine Rets.eq (rets_f ?_)
  unfold lgcd Wi.start
  conv => arg 5; simp -implicitDefEqProofs (disch := omega) [rng1]
  refine stp_rgn 200 (fun k e => ∃ (a' b' : Nat) (s2 : Sl), e = [.v (.int a'), .v (.int b'), s2] ∧ Nat.gcd a' b' = Nat.gcd a b ∧ ((k = 0 ∧ a' ≤ 90) ∨ b' + k ≤ 100)) (by omega) ⟨a, b, _, rfl, rfl, .inl ⟨rfl, ha⟩⟩ ?_ ?_
  · rintro k e hk ⟨a', b', s2, rfl, hg, hbk⟩
    by_cases h0 : b' = 0
    · subst h0
      rw [Nat.gcd_zero_right] at hg
      conv => arg 5; simp -implicitDefEqProofs
      exact stp_rt.mpr (by rw [hg])
    · have hlt := Nat.mod_lt a' (show b' > 0 by omega)
      have hle := Nat.mod_le a' b'
      obtain ⟨r, hr⟩ : ∃ r : Nat, r = a' % b' := ⟨_, rfl⟩
      have hm : (a' : Int) % (b' : Int) = r := by rw [hr, Int.natCast_emod]
      rw [← hr] at hlt hle
      conv => arg 5; simp -implicitDefEqProofs (disch := omega) [h0, o2_mod, hm]
      refine stp_nx.mpr ⟨b', r, _, rfl, by rw [hr, gcd_step]; exact hg, .inr ?_⟩
      rcases hbk with ⟨z, q⟩ | q <;> omega
  · rintro e ⟨a', b', s2, rfl, hg, hbk⟩
    rcases hbk with ⟨z, q⟩ | q <;> omega
section
variable {F : FE} {ch : List Sm} (hok : ∀ s ∈ ch, SmOk s) (hl : ch.length ≤ 10)
include hok hl
theorem chspan_ok (hs : spn ch ≤ 100000) : callD F chspan [.tuple (chD ch)] = some (.v (.int (spn ch : Nat))) := by
  refine Rets.eq (rets_f ?_)
  unfold chspan Wi.start
  conv => arg 5; simp -implicitDefEqProofs
  refine stp_for (fun k e => ∃ s2 s3 : Sl, e = [.v (.tuple (chD ch)), .v (.int (spn (ch.take k) : Nat)), s2, s3]) ⟨_, _, rfl⟩ ?_ ?_
  · rintro k x e hk ⟨s2, s3, rfl⟩
    obtain ⟨hlt, rfl⟩ := ch_get hk
    have h1 := spn_le hok k
    have h2 := (hok _ (smp_mem hlt)).p2
    rw [spn_take hlt]
    have h3 := b_lcm' (a := spn (ch.take k)) (b := (smp ch k).p) (by omega) (by omega)
    conv => arg 5; simp -implicitDefEqProofs [h3]
    exact stp_nx.mpr ⟨_, _, rfl⟩
  · rintro e ⟨s2, s3, rfl⟩
    rw [chD_len, List.take_length]
    conv => arg 5; simp -implicitDefEqProofs
    exact stp_rt.mpr rfl
theorem lchspan_ok {im : Nat} (hs : spn ch ≤ 100000) (hm : ∀ a b : Nat, 0 < a → a ≤ 100000 → b ≤ 30 → F im [.int a, .int b] = some (.v (.int (lcmN a b : Nat)))) : callD F (lchspan im) [.tuple (chD ch)] = some (.v (.int (spn ch : Nat))) := by
  refine Rets.eq (rets_f ?_)
  unfold lchspan Wi.start
  conv => arg 5; simp -implicitDefEqProofs
  refine stp_for (fun k e => ∃ s2 s3 : Sl, e = [.v (.tuple (chD ch)), .v (.int (spn (ch.take k) : Nat)), s2, s3]) ⟨_, _, rfl⟩ ?_ ?_
  · rintro k x e hk ⟨s2, s3, rfl⟩
    obtain ⟨hlt, rfl⟩ := ch_get hk
    have h1 := spn_le hok k
    have h0 := spn_pos hok k
    have h2 := (hok _ (smp_mem hlt)).p2
    rw [spn_take hlt]
    have h3 := hm (spn (ch.take k)) (smp ch k).p (by omega) (by omega) h2
    rw [lcmN_eq (by omega)] at h3
    conv => arg 5; simp -implicitDefEqProofs [h3]
    exact stp_nx.mpr ⟨_, _, rfl⟩
  · rintro e ⟨s2, s3, rfl⟩
    rw [chD_len, List.take_length]
    conv => arg 5; simp -implicitDefEqProofs
    exact stp_rt.mpr rfl
theorem source_ok (b : Int) : callD F source [.tuple (chD ch), .int b] = some (.v (.int (src ch b))) := by
  refine Rets.eq (rets_f ?_)
  unfold source Wi.start
  conv => arg 5; simp -implicitDefEqProofs
  have hrl : (chD ch).reverse.length = ch.length := by rw [List.length_reverse, chD_len]
  refine stp_for (fun k e => ∃ s2 s3 : Sl, k ≤ ch.length ∧ e = [.v (.tuple (chD ch)), .v (.int (src (ch.drop (ch.length - k)) b)), s2, s3]) ⟨_, _, Nat.zero_le _, by rw [Nat.sub_zero, List.drop_length]; rfl⟩ ?_ ?_
  · rintro k x e hk ⟨s2, s3, hkl, rfl⟩
    have hk2 : k < ch.length := by
      have := (List.getElem?_eq_some_iff.mp hk).1
      omega
    rw [List.getElem?_reverse (by rw [chD_len]; exact hk2), chD_len] at hk
    obtain ⟨hlt, rfl⟩ := ch_get hk
    have ok := hok _ (smp_mem hlt)
    have p1 := ok.p1
    have e1 : ch.length - k = ch.length - 1 - k + 1 := by omega
    have e2 : ch.length - (k + 1) = ch.length - 1 - k := by omega
    have hd := src_drop hlt b
    rw [e1, e2, hd]
    generalize src (ch.drop (ch.length - 1 - k + 1)) b = z
    have ha : z - (z - ((smp ch (ch.length - 1 - k)).o : Int)) % ((smp ch (ch.length - 1 - k)).p : Int) = act (smp ch (ch.length - 1 - k)) z := rfl
    generalize smp ch (ch.length - 1 - k) = s at *
    conv => arg 5; simp -implicitDefEqProofs (disch := omega) [o2_mod, augR_s, ha]
    exact stp_nx.mpr ⟨_, _, by omega, rfl⟩
  · rintro e ⟨s2, s3, hkl, rfl⟩
    rw [hrl, Nat.sub_self, List.drop_zero]
    conv => arg 5; simp -implicitDefEqProofs
    exact stp_rt.mpr rfl
end
theorem rgc_nat {o p q : Nat} (p1 : 1 ≤ p) (q1 : 1 ≤ q) : rgn (o : Int) ((o : Int) + ((p * q : Nat) : Int)) (p : Int) = q ∧ rgc (o : Int) (p : Int) q = iD ((List.range q).map fun (k : Nat) => (o : Int) + (k : Int) * (p : Int)) := by
  constructor
  · unfold rgn
    have h1 : 1 * 1 ≤ p * q := Nat.mul_le_mul p1 q1
    rw [if_pos (by omega)]
    have : ((o : Int) + ((p * q : Nat) : Int) - (o : Int) - 1) / (p : Int) = (q : Int) - 1 := by
      rw [show (o : Int) + ((p * q : Nat) : Int) - (o : Int) - 1 = ((p : Int) - 1) + (p : Int) * ((q : Int) - 1) by rw [Int.natCast_mul, Int.mul_sub]; omega, Int.add_mul_ediv_left _ _ (by omega), Int.ediv_eq_zero_of_lt (by omega) (by omega)]
      omega
    rw [this]
    omega
  · unfold rgc iD
    rw [List.map_map]; rfl
section
variable {F : FE} {ch : List Sm} (hok : ∀ s ∈ ch, SmOk s) (hn : 0 < ch.length) (hl : ch.length ≤ 10) (hs : spn ch ≤ 100000)
include hok hn hl hs
theorem lacts_ok {ia : Nat} (ha : F ia [.tuple (chD ch)] = some (.v (.int (spn ch : Nat)))) : callD F (lacts ia) [.tuple (chD ch)] = some (.l (iD ((List.range (spn ch / (smp ch (ch.length - 1)).p)).map fun (k : Nat) => ((smp ch (ch.length - 1)).o : Int) + (k : Int) * ((smp ch (ch.length - 1)).p : Int)))) := by
  obtain ⟨q, q1, hq, hq2⟩ := last_div hok hn
  have ok := hok _ (smp_mem (show ch.length - 1 < ch.length by omega))
  have hne : chD ch ≠ [] := fun z => by have := chD_len ch; rw [z] at this; simp at this; omega
  have hlast : (chD ch).getLast? = some (.tuple [.int (smp ch (ch.length - 1)).p, .int (smp ch (ch.length - 1)).o]) := by
    rw [List.getLast?_eq_getElem?, chD_len]
    exact chD_nth (by omega)
  rw [hq2]
  rw [hq] at ha hs
  generalize smp ch (ch.length - 1) = s at *
  have p1 := ok.p1
  have p2 := ok.p2
  have ho := ok.o
  obtain ⟨g1, g2⟩ := rgc_nat (o := s.o) p1 q1
  have hqs : 1 * q ≤ s.p * q := Nat.mul_le_mul_right _ p1
  have hb : bF .lrg [.int s.o, .int ((s.o : Int) + ((s.p * q : Nat) : Int)), .int s.p] = some (.l (iD ((List.range q).map fun (k : Nat) => (s.o : Int) + (k : Int) * (s.p : Int)))) := by
    show (lrgF _).map _ = _
    show (if (((s.o : Int)).natAbs < 1099511627776 ∧ ((s.o : Int) + ((s.p * q : Nat) : Int)).natAbs < 1099511627776) ∧ 0 < (s.p : Int) ∧ (s.p : Int) < 1073741824 ∧ rgn (s.o : Int) ((s.o : Int) + ((s.p * q : Nat) : Int)) (s.p : Int) ≤ LIM then some (rgc (s.o : Int) (s.p : Int) (rgn (s.o : Int) ((s.o : Int) + ((s.p * q : Nat) : Int)) (s.p : Int))) else none).map _ = _
    rw [g1, g2, if_pos ⟨⟨by omega, by omega⟩, by omega, by omega, by unfold LIM; omega⟩]; rfl
  refine Rets.eq (rets_f ?_)
  unfold lacts Wi.start
  refine stp_cons ?_
  conv => arg 5; simp -implicitDefEqProofs [item_tn hne, hlast]
  refine stp_nx.mpr ?_
  conv => arg 5; simp -implicitDefEqProofs [ha]
  have hb2 : bF .lrg [.int s.o, .int ((s.o : Int) + (s.p : Int) * (q : Int)), .int s.p] = some (.l (iD ((List.range q).map fun (k : Nat) => (s.o : Int) + (k : Int) * (s.p : Int)))) := by rw [← Int.natCast_mul]; exact hb
  conv => arg 5; simp -implicitDefEqProofs [hb2]
  exact stp_rt.mpr rfl
theorem gact_ok {is ia : Nat} (hsrc : ∀ b : Int, F is [.tuple (chD ch), .int b] = some (.v (.int (src ch b)))) (ha : F ia [.tuple (chD ch)] = some (.l (iD ((List.range (spn ch / (smp ch (ch.length - 1)).p)).map fun (k : Nat) => ((smp ch (ch.length - 1)).o : Int) + (k : Int) * ((smp ch (ch.length - 1)).p : Int))))) :
    callD F (gact is ia) [.tuple (chD ch)] = some (.v (.int (gaI ch))) := by
  obtain ⟨q, q1, hq, hq2⟩ := last_div hok hn
  have p1 := (hok _ (smp_mem (show ch.length - 1 < ch.length by omega))).p1
  have hqs : 1 * q ≤ (smp ch (ch.length - 1)).p * q := Nat.mul_le_mul_right _ p1
  have hg : gaI ch = mxI (((List.range q).map fun (k : Nat) => ((smp ch (ch.length - 1)).o : Int) + (k : Int) * ((smp ch (ch.length - 1)).p : Int)).map fun a => a - src ch a) := by
    unfold gaI
    rw [hq2, List.map_map]; rfl
  rw [hq2] at ha
  have hL : ((List.range q).map fun (k : Nat) => ((smp ch (ch.length - 1)).o : Int) + (k : Int) * ((smp ch (ch.length - 1)).p : Int)).length = q := by simp
  generalize (List.range q).map (fun (k : Nat) => ((smp ch (ch.length - 1)).o : Int) + (k : Int) * ((smp ch (ch.length - 1)).p : Int)) = L at *
  refine Rets.eq (rets_f ?_)
  unfold gact Wi.start
  conv => arg 5; simp -implicitDefEqProofs [ha]
  rw [comp_iD (fun a => a - src ch a) (by omega) fun x hx => by simp -implicitDefEqProofs [hsrc]]
  have hne : L.map (fun a => a - src ch a) ≠ [] := fun z => by
    have := congrArg List.length z
    simp at this
    rw [this] at hL; simp at hL; omega
  conv => arg 5; simp -implicitDefEqProofs [b_mxl hne]
  exact stp_rt.mpr (by rw [hg])
theorem gheld_ok {ig : Nat} (hg : F ig [.tuple (chD ch)] = some (.v (.int (gaI ch)))) : callD F (gheld ig) [.tuple (chD ch)] = some (.v (.int (gaI ch + (smp ch (ch.length - 1)).p - 1))) := by
  have hne : chD ch ≠ [] := fun z => by have := chD_len ch; rw [z] at this; simp at this; omega
  have hlast : (chD ch).getLast? = some (.tuple [.int (smp ch (ch.length - 1)).p, .int (smp ch (ch.length - 1)).o]) := by
    rw [List.getLast?_eq_getElem?, chD_len]
    exact chD_nth (by omega)
  rw [callD_eq]
  unfold gheld Wi.start
  simp -implicitDefEqProofs (disch := omega) [hg, item_tn hne, hlast, item_t]
end
section
variable {F : FE} {row : List Int} {c : Nat → Int} {K : Nat} (hc : ∀ k, k < K → nth row k = some (c k)) (hb : ∀ k, 0 ≤ c k ∧ c k < 1000003) (hK : K ≤ 1000)
include hc hb hK
theorem lchain_ok {a most im ig : Nat} (h1 : 1 ≤ most) (h2 : most ≤ 5000) (ha : a + 16 ≤ K) (hm : ∀ a b : Nat, 0 < a → a ≤ 5000 → b ≤ 30 → F im [.int a, .int b] = some (.v (.int (lcmN a b : Nat)))) (hg : ∀ a b : Nat, a ≤ 30 → b ≤ 5000 → F ig [.int a, .int b] = some (.v (.int (Nat.gcd a b : Nat)))) :
    ∃ ch, callD F (lchain im ig) [.list (iD row), .int a, .int most] = some (.v (.tuple (chD ch))) ∧ 1 ≤ ch.length ∧ ch.length ≤ 6 ∧ (∀ s ∈ ch, SmOk s) ∧ spn ch ≤ most := by
  suffices h : Rets (callD F (lchain im ig) [.list (iD row), .int a, .int most]) fun r => ∃ ch, r = .v (.tuple (chD ch)) ∧ 1 ≤ ch.length ∧ ch.length ≤ 6 ∧ (∀ s ∈ ch, SmOk s) ∧ spn ch ≤ most by
    obtain ⟨_, e, ch, rfl, h⟩ := h
    exact ⟨ch, e, h⟩
  have c0 := hc a (by omega)
  have c1 := hc (a + 1) (by omega)
  have b0 := hb a
  have b1 := hb (a + 1)
  have t1 : ((a : Int) + 1).toNat = a + 1 := by omega
  obtain ⟨tz, htz, htzm⟩ := pick [8, 12, 30] (i := c a % 3) (by omega) (by simp; omega)
  have htz : nth [PyData.int 8, .int 12, .int 30] (c a % 3).toNat = some (.int tz) := htz
  have htz1 : 8 ≤ tz ∧ tz ≤ 30 := by simp at htzm; omega
  obtain ⟨n, hn⟩ : ∃ n : Nat, (n : Int) = 1 + c (a + 1) % 6 := ⟨(1 + c (a + 1) % 6).toNat, by omega⟩
  refine rets_f ?_
  unfold lchain Wi.start
  refine stp_cons ?_
  conv => arg 5; simp -implicitDefEqProofs (disch := omega) [item_l, c0, o2_mod, item_t, htz]
  refine stp_nx.mpr ?_
  conv => arg 5; simp -implicitDefEqProofs (disch := omega) [item_l, t1, c1, o2_mod, ← hn, rng1]
  refine stp_rgn n (fun k e => ∃ (ch : List Sm) (s6 s7 : Sl), e = [.v (.list (iD row)), .v (.int a), .v (.int most), .v (.int tz), .own (chD ch), .v (.int (spn ch : Nat)), s6, s7] ∧ ch.length = k ∧ (∀ s ∈ ch, SmOk s) ∧ spn ch ≤ most) (by omega) ⟨[], _, _, rfl, rfl, fun s h => (by cases h), h1⟩ ?_ ?_
  · rintro k e hk ⟨ch, s6, s7, rfl, hcl, hok, hsp⟩
    have u2 : ((a : Int) + 2 + 2 * (k : Int)).toNat = a + 2 + 2 * k := by omega
    have u3 : ((a : Int) + 3 + 2 * (k : Int)).toNat = a + 3 + 2 * k := by omega
    have d2 := hc (a + 2 + 2 * k) (by omega)
    have d3 := hc (a + 3 + 2 * k) (by omega)
    have e2 := hb (a + 2 + 2 * k)
    have r0 := Int.emod_nonneg (c (a + 2 + 2 * k)) (show tz ≠ 0 by omega)
    have r1 := Int.emod_lt_of_pos (c (a + 2 + 2 * k)) (show 0 < tz by omega)
    obtain ⟨p, hp⟩ : ∃ p : Nat, (p : Int) = 1 + c (a + 2 + 2 * k) % tz := ⟨(1 + c (a + 2 + 2 * k) % tz).toNat, by omega⟩
    have hs0 := spn_pos hok ch.length
    rw [List.take_length] at hs0
    have x1 := hm (spn ch) p (by omega) (by omega) (by omega)
    rw [lcmN_eq (by omega)] at x1
    -- the period in use
    have fin : ∀ p' : Nat, 1 ≤ p' → p' ≤ 30 → Nat.lcm (spn ch) p' ≤ most → ∀ s6 : Sl, Stp (fun e => ∃ (ch : List Sm) (s6 s7 : Sl), e = [.v (.list (iD row)), .v (.int a), .v (.int most), .v (.int tz), .own (chD ch), .v (.int (spn ch : Nat)), s6, s7] ∧ ch.length = k + 1 ∧ (∀ s ∈ ch, SmOk s) ∧ spn ch ≤ most) (fun r => ∃ ch, r = .v (.tuple (chD ch)) ∧ 1 ≤ ch.length ∧ ch.length ≤ 6 ∧ (∀ s ∈ ch, SmOk s) ∧ spn ch ≤ most) (fun _ => False) (fun _ => False)
        (dnSs F [.asg 5 (.call im [(.var 5), (.var 7)]), .app 4 (.tup [(.var 7), (.bin .mod (.bi .int [(.ix (.var 0) (.bin .add (.bin .add (.var 1) (.lit (.int 3))) (.bin .mul (.lit (.int 2)) (.var 6))))]) (.var 7))])] [.v (.list (iD row)), .v (.int a), .v (.int most), .v (.int tz), .own (chD ch), .v (.int (spn ch : Nat)), .v (.int k), .v (.int p')]) := fun p' p1 p2 hle s6 => by
      have x3 := hm (spn ch) p' (by omega) (by omega) (by omega)
      rw [lcmN_eq (by omega)] at x3
      have r0 := Int.emod_nonneg (c (a + 3 + 2 * k)) (show (p' : Int) ≠ 0 by omega)
      have r1 := Int.emod_lt_of_pos (c (a + 3 + 2 * k)) (show 0 < (p' : Int) by omega)
      obtain ⟨o, ho⟩ : ∃ o : Nat, (o : Int) = c (a + 3 + 2 * k) % (p' : Int) := ⟨(c (a + 3 + 2 * k) % (p' : Int)).toNat, by omega⟩
      refine stp_cons ?_
      conv => arg 5; simp -implicitDefEqProofs [x3]
      refine stp_nx.mpr ?_
      conv => arg 5; simp -implicitDefEqProofs (disch := first | omega | (simp [chD_len]; omega)) [item_l, o2_mul, u3, d3, o2_mod, ← ho, appG_s]
      have e4 : chD ch ++ [.tuple [.int p', .int o]] = chD (ch ++ [⟨p', o⟩]) := by unfold chD; rw [List.map_append]; rfl
      rw [e4]
      refine stp_nx.mpr ⟨ch ++ [⟨p', o⟩], _, _, by rw [spn_snoc], by rw [List.length_append, hcl]; rfl, fun s hs => ?_, by rw [spn_snoc]; exact hle⟩
      rcases List.mem_append.mp hs with q | q
      · exact hok s q
      · rw [List.mem_singleton.mp q]
        exact ⟨p1, p2, by show o < p'; omega⟩
    refine stp_cons ?_
    conv => arg 5; simp -implicitDefEqProofs (disch := omega) [item_l, o2_mul, u2, d2, o2_mod, ← hp]
    refine stp_nx.mpr (stp_cons ?_)
    by_cases z : (most : Int) < ((Nat.lcm (spn ch) p : Nat) : Int)
    · have x2 := hg p (spn ch) (by omega) (by omega)
      conv => arg 5; simp -implicitDefEqProofs [x1, z, x2]
      have g0 : 1 ≤ Nat.gcd p (spn ch) := Nat.gcd_pos_of_pos_left _ (by omega)
      have g1 : Nat.gcd p (spn ch) ≤ p := Nat.le_of_dvd (by omega) (Nat.gcd_dvd_left _ _)
      refine stp_nx.mpr ((fin _ g0 (by omega) ?_ s6).mono (fun _ h => h) (fun _ h => h) (fun _ h => h.elim) (fun _ h => h.elim))
      have : Nat.lcm (spn ch) (Nat.gcd p (spn ch)) ∣ spn ch := Nat.lcm_dvd (Nat.dvd_refl _) (Nat.gcd_dvd_right _ _)
      have := Nat.le_of_dvd (by omega) this
      omega
    · conv => arg 5; simp -implicitDefEqProofs [x1, z]
      exact stp_nx.mpr ((fin p (by omega) (by omega) (by omega) s6).mono (fun _ h => h) (fun _ h => h) (fun _ h => h.elim) (fun _ h => h.elim))
  · rintro e ⟨ch, s6, s7, rfl, hcl, hok, hsp⟩
    conv => arg 5; simp -implicitDefEqProofs
    exact stp_rt.mpr ⟨ch, rfl, by omega, by omega, hok, hsp⟩
end
end Wc

namespace Wc
open PySem Wi Wp
def hlS (ch : List Sm) (x : Int) : List Int := (List.range x.toNat).map fun (i : Nat) => src ch (i : Int)
theorem hlS_neg {ch : List Sm} {b : Int} (h : b < 0) : hlS ch (b + 1) = hlS ch b := by
  unfold hlS
  rw [show (b + 1).toNat = 0 by omega, show b.toNat = 0 by omega]
theorem hlS_s {ch : List Sm} {b : Int} (h : 0 ≤ b) : hlS ch (b + 1) = hlS ch b ++ [src ch b] := by
  unfold hlS
  rw [show (b + 1).toNat = b.toNat + 1 by omega, List.range_succ, List.map_append]
  simp
  rw [show max b 0 = b by omega]
theorem hlS_len (ch : List Sm) (x : Int) : (hlS ch x).length = x.toNat := by unfold hlS; simp
theorem chP_sum (ch : List Sm) : (List.range ch.length).map (fun k => PyData.int ((smp ch k).p : Int)) = iD (ch.map fun s => (s.p : Int)) := by
  unfold iD
  rw [List.map_map]
  apply List.ext_getElem
  · simp
  · intro i h1 h2
    have hi : i < ch.length := by simpa using h1
    rw [List.getElem_map, List.getElem_map, List.getElem_range, smp_get hi]; rfl
theorem nones (n : Nat) : (List.range n).map (fun _ => PyData.none) = oDs (List.replicate n none) := by
  unfold oDs
  rw [List.map_replicate]
  apply List.ext_getElem <;> simp [oD]
theorem sw_mono {ch : List Sm} (hok : ∀ s ∈ ch, SmOk s) {k : Nat} (h : k < ch.length) : sw ch k ≤ sw ch (k + 1) := by
  have := (hok _ (smp_mem h)).p1
  rw [sw_s h]; omega
theorem sw_nn {ch : List Sm} (hok : ∀ s ∈ ch, SmOk s) : ∀ k, k ≤ ch.length → 0 ≤ sw ch k ∧ sw ch k ≤ 30 * k
  | 0, _ => ⟨Int.le_refl _, Int.le_refl _⟩
  | k + 1, h => by
    have h1 := sw_nn hok k (by omega)
    have h2 := hok _ (smp_mem (show k < ch.length by omega))
    have h3 := h2.p1
    have h4 := h2.p2
    rw [sw_s (by omega)]
    omega
section
variable {F : FE} {ch : List Sm} (hok : ∀ s ∈ ch, SmOk s) (hn : 0 < ch.length) (hl : ch.length ≤ 10)
include hok hn hl
theorem lheld_ok {many : Nat} (hm : many ≤ 100000) : callD F lheld86 [.tuple (chD ch), .int many] = some (.l (iD (hlS ch many))) := by
  have hcl := chD_len ch
  have hsw := sw_nn hok ch.length (Nat.le_refl _)
  obtain ⟨st, hst⟩ : ∃ st : Int, st = -(ch.map fun s => (s.p : Int)).sum := ⟨_, rfl⟩
  have hss := sum_sw ch
  have st0 : st ≤ -(sw ch ch.length) ∧ -1000 ≤ st ∧ st ≤ 0 := by omega
  refine Rets.eq (rets_f ?_)
  unfold lheld86 Wi.start
  refine stp_cons ?_
  conv => arg 5; simp -implicitDefEqProofs
  rw [comp_nth ch.length (fun k => .int (smp ch k).p) hcl (by omega) fun k x hk => by
    obtain ⟨hlt, rfl⟩ := ch_get hk
    simp -implicitDefEqProofs]
  rw [chP_sum]
  conv => arg 5; simp -implicitDefEqProofs
  rw [← hst]
  refine stp_nx.mpr (stp_cons ?_)
  conv => arg 5; simp -implicitDefEqProofs
  rw [comp_nth ch.length (fun _ => .none) hcl (by omega) fun k x hk => by simp -implicitDefEqProofs]
  rw [nones]
  conv => arg 5; simp -implicitDefEqProofs
  refine stp_nx.mpr (stp_cons ?_)
  conv => arg 5; simp -implicitDefEqProofs
  refine stp_nx.mpr ?_
  conv => arg 5; simp -implicitDefEqProofs (disch := omega) [rng2]
  obtain ⟨N, hN⟩ : ∃ N : Nat, (N : Int) = (many : Int) - st := ⟨((many : Int) - st).toNat, by omega⟩
  refine stp_rgn N (fun j e => ∃ (ts : List (Option Int)) (s3 s4 s7 s8 s9 s10 : Sl), e = [.v (.tuple (chD ch)), .v (.int many), .v (.int st), s3, s4, .own (oDs ts), .own (iD (hlS ch (st + (j : Int)))), s7, s8, s9, s10] ∧ ts.length = ch.length ∧ ∀ k, k < ch.length → st + sw ch k ≤ act (smp ch k) (st + (j : Int) - 1) → ts[k]? = some (some (src (ch.take (k + 1)) (st + (j : Int) - 1)))) (by omega)
    ⟨List.replicate ch.length none, _, _, _, _, _, _, by
      have : hlS ch (st + ((0 : Nat) : Int)) = [] := by unfold hlS; rw [show (st + ((0 : Nat) : Int)).toNat = 0 by omega]; rfl
      rw [this]; rfl, by simp, fun k hk h => by
      have h1 := (act_le (hok _ (smp_mem hk)) (st + ((0 : Nat) : Int) - 1)).2
      have h2 := (sw_nn hok k (by omega)).1
      omega⟩ ?_ ?_
  · rintro j e hj ⟨ts, s3, s4, s7, s8, s9, s10, rfl, htl, hold⟩
    have ej : st + ((j + 1 : Nat) : Int) = (st + (j : Int)) + 1 := by omega
    rw [ej]
    have hjb : st ≤ st + (j : Int) ∧ st + (j : Int) < many := by omega
    generalize st + (j : Int) = b at *
    have e1 : b + 1 - 1 = b := by omega
    rw [e1]
    conv => arg 5; simp -implicitDefEqProofs (disch := omega) [rng1, hcl]
    refine stp_rgn ch.length (fun i e => ∃ (ts : List (Option Int)) (sg : Option Int) (s3 s4 s9 s10 : Sl), e = [.v (.tuple (chD ch)), .v (.int many), .v (.int st), s3, s4, .own (oDs ts), .own (iD (hlS ch b)), .v (.int b), .v (oD sg), s9, s10] ∧ ts.length = ch.length ∧ (∀ k, k < i → k < ch.length → st + sw ch k ≤ act (smp ch k) b → ts[k]? = some (some (src (ch.take (k + 1)) b))) ∧ (∀ k, i ≤ k → k < ch.length → st + sw ch k ≤ act (smp ch k) (b - 1) → ts[k]? = some (some (src (ch.take (k + 1)) (b - 1)))) ∧ (st + sw ch i ≤ b → sg = some (src (ch.take i) b))) (by omega)
      ⟨ts, some b, _, _, _, _, rfl, htl, fun k h => by omega, fun k _ hk h => hold k hk h, fun _ => rfl⟩ ?_ ?_
    · rintro i e hi ⟨ts, sg, s3, s4, s9, s10, rfl, htl, hnew, hold, hsg⟩
      have ni := chD_nth hi
      have ok := hok _ (smp_mem hi)
      have hsn := src_snoc hi
      have hsws := sw_s hi
      have hal := act_le ok b
      have hold_i := hold i (Nat.le_refl _) hi
      have p1 := ok.p1
      have hfix : (b - ((smp ch i).o : Int)) % ((smp ch i).p : Int) = 0 → act (smp ch i) b = b := act_fix
      have hprev : (b - ((smp ch i).o : Int)) % ((smp ch i).p : Int) ≠ 0 → act (smp ch i) b = act (smp ch i) (b - 1) := act_prev ok
      have hsi : ∀ x, x = smp ch i → ∀ k, k = i → smp ch k = x := fun x hx k hk => by rw [hk, hx]
      obtain ⟨s, hs⟩ : ∃ s, s = smp ch i := ⟨_, rfl⟩
      have hsi := hsi s hs
      rw [← hs] at ni ok hsn hsws hal hold_i p1 hfix hprev
      by_cases z : (b - (s.o : Int)) % (s.p : Int) = 0
      · have hb := hfix z
        have g2 : nth (oDs (ts.set i sg)) i = some (oD sg) := oDs_nth (by rw [List.getElem?_set_self (by omega)])
        have hset : (oDs ts).set i (oD sg) = oDs (ts.set i sg) := oDs_set
        conv => arg 5; simp -implicitDefEqProofs (disch := first | omega | (simp; omega)) [item_t, ni, o2_mod, z, setG_s, hset, item_l, g2]
        refine stp_nx.mpr ⟨ts.set i sg, sg, _, _, _, _, rfl, by rw [List.length_set]; exact htl, fun k h1 h2 h3 => ?_, fun k h1 h2 h3 => ?_, fun h => ?_⟩
        · by_cases q : k = i
          · rw [hsi k q, hb, q] at h3
            rw [q, List.getElem?_set_self (by omega), hsg h3, hsn, hb]
          · rw [List.getElem?_set_ne (Ne.symm q)]
            exact hnew k (by omega) h2 h3
        · rw [List.getElem?_set_ne (by omega)]
          exact hold k (by omega) h2 h3
        · rw [hsn, hb]
          exact hsg (by omega)
      · have hb := hprev z
        obtain ⟨o, ho⟩ : ∃ o, ts[i]? = some o := ⟨_, List.getElem?_eq_getElem (by omega)⟩
        have g2 := oDs_nth ho
        conv => arg 5; simp -implicitDefEqProofs (disch := omega) [item_t, ni, o2_mod, z, item_l, g2]
        have key : st + sw ch i ≤ act s b → o = some (src (ch.take (i + 1)) b) := fun h => by
          rw [hb] at h
          have := hold_i h
          rw [ho] at this
          rw [Option.some.inj this, hsn, hsn, hb]
        refine stp_nx.mpr ⟨ts, o, _, _, _, _, rfl, htl, fun k h1 h2 h3 => ?_, fun k h1 h2 h3 => hold k (by omega) h2 h3, fun h => key (by omega)⟩
        by_cases q : k = i
        · rw [hsi k q, q] at h3
          rw [q, ho, key h3]
        · exact hnew k (by omega) h2 h3
    · rintro e ⟨ts, sg, s3, s4, s9, s10, rfl, htl, hnew, hold, hsg⟩
      have hne : oDs ts ≠ [] := fun z => by have := oDs_len ts; rw [z] at this; simp at this; omega
      by_cases z : 0 ≤ b
      · have hlast : (oDs ts).getLast? = some (.int (src ch b)) := by
          have h1 := hnew (ch.length - 1) (by omega) (by omega) (by
            have ok := hok _ (smp_mem (show ch.length - 1 < ch.length by omega))
            have h2 := act_le ok b
            have h3 := sw_s (ch := ch) (k := ch.length - 1) (by omega)
            rw [show ch.length - 1 + 1 = ch.length by omega] at h3
            omega)
          rw [show ch.length - 1 + 1 = ch.length by omega, List.take_length] at h1
          have h2 := oDs_nth h1
          unfold nth at h2
          rw [List.getLast?_eq_getElem?, oDs_len, htl, h2]; rfl
        have hh := hlS_s (ch := ch) z
        rw [hh]
        have hhl := hlS_len ch b
        conv => arg 5; simp -implicitDefEqProofs (disch := first | omega | (simp; omega)) [z, item_ln hne, hlast, appG_s]
        exact stp_nx.mpr ⟨ts, _, _, _, _, _, _, rfl, htl, fun k hk h => hnew k hk hk h⟩
      · rw [hlS_neg (by omega)]
        conv => arg 5; simp -implicitDefEqProofs [z]
        exact stp_nx.mpr ⟨ts, _, _, _, _, _, _, rfl, htl, fun k hk h => hnew k hk hk h⟩
  · rintro e ⟨ts, s3, s4, s7, s8, s9, s10, rfl, htl, hold⟩
    conv => arg 5; simp -implicitDefEqProofs
    refine stp_rt.mpr ?_
    rw [show st + (N : Int) = many by omega]
end
end Wc

namespace Wc
open PySem Wi Wp
def lgI (s t : Sx) : Int := (s.l - 1) - ((s.l - 1) - (t.o - s.o)) % ((Nat.gcd s.p t.p : Nat) : Int)
section
variable {F : FE} {old new : List Sx} (ho : ∀ s ∈ old, SOk s) (hn : ∀ s ∈ new, SOk s) (hl : old.length ≤ 20) (hl2 : new.length ≤ 20)
include ho hn hl hl2
end
structure FB (s t : Sx) (gap f : Int) : Prop where
  a : s.o ≤ f
  b : (f - s.o) % (s.p : Int) = 0
  c : t.o ≤ f + gap
  d : (f + gap - t.o) % (t.p : Int) = 0
end Wc

namespace Wc
open PySem Wi Wp
def clD (i j : Nat) (gap f : Int) : D := .tuple [.int i, .int j, .int (if 1 ≤ gap then f + gap else f + 1), .int (f + gap), .int (max f (f + gap))]
@[simp] theorem noL_cl {i j : Nat} {gap f : Int} {l : List Nat} {env : En} : after (.v (clD i j gap f)) l env = env := after_noL rfl
section
variable {F : FE} {old new : List Sx} {w : Int} (ho : ∀ s ∈ old, SOk s) (hn : ∀ s ∈ new, SOk s) (hl : old.length ≤ 20) (hl2 : new.length ≤ 20)
include ho hn hl hl2
end
end Wc

namespace Wc
open PySem Wi Wp
@[simp] theorem lst_t {xs : List D} : bF .list [.tuple xs] = some (.l xs) := rfl
section
variable {F : FE} {row : List Int} {c : Nat → Int} {K : Nat} (hc : ∀ k, k < K → nth row k = some (c k)) (hb : ∀ k, 0 ≤ c k ∧ c k < 1000003) (hK : K ≤ 1000)
include hc hb hK
end
end Wc

namespace Wc
open PySem Wi Wp
@[simp] theorem after_bii {b : Bool} {x y : Int} {l : List Nat} {env : En} : after (.v (.tuple [.bool b, .int x, .int y])) l env = env := after_noL rfl
section
variable {F : FE} {s t : Sx} (hs : SOk s) (ht : SOk t)
include hs ht
end
/-- a frame pair: alone?, the old frame's begin, the new one's -/
def frD (x : Bool × Int × Int) : D := .tuple [.bool x.1, .int x.2.1, .int x.2.2]
structure Frs (old new : List Sx) (L : List (Bool × Int × Int)) : Prop where
  all : ∀ x ∈ L, ∃ i j, i < old.length ∧ j < old.length ∧ x.1 = decide (i = j) ∧ 1 - (sx new j).l ≤ x.2.2 - x.2.1 ∧ x.2.2 - x.2.1 ≤ lgI (sx old i) (sx new j) ∧ (-1000000000 ≤ x.2.2 ∧ x.2.2 ≤ 1000000000)
  top : ∀ i j, i < old.length → j < old.length → 1 - (sx new j).l ≤ lgI (sx old i) (sx new j) → ∃ x ∈ L, x.1 = decide (i = j) ∧ x.2.2 - x.2.1 = lgI (sx old i) (sx new j)
theorem noLs_fr : ∀ L : List (Bool × Int × Int), noLs (L.map frD) = true
  | [] => rfl
  | _ :: r => noLs_fr r
@[simp] theorem after_fr {L : List (Bool × Int × Int)} {l : List Nat} {env : En} : after (.l (L.map frD)) l env = env := after_noL (noLs_fr L)
section
variable {F : FE} {old new : List Sx} (ho : ∀ s ∈ old, SOk s) (hn : ∀ s ∈ new, SOk s) (hl : old.length ≤ 20) (hlen : new.length = old.length)
include ho hn hl hlen
end
end Wc

namespace Wc
open PySem Wi Wp
section
variable {F : FE} {old new : List Sx} {w : Int} (ho : ∀ s ∈ old, SOk s) (hn : ∀ s ∈ new, SOk s) (hl : old.length ≤ 20) (hl2 : new.length ≤ 20)
include ho hn hl hl2
end
end Wc

namespace Wc
open PySem Wi Wp
/-- the least width of one pair -/
def wdS (s t : Sx) (al : Bool) : Option Int := if al = true then (if 1 ≤ lgI s t then some 1 else none) else if 1 - t.l ≤ lgI s t then some (max 1 (2 - lgI s t)) else none
section
variable {F : FE} {s t : Sx} (hs : SOk s) (ht : SOk t)
include hs ht
end
end Wc

namespace Wc
open PySem Wi Wp
structure MinW (old new : List Sx) (W : Option Int) : Prop where
  lo : ∀ i j, i < old.length → j < old.length → ∀ y, wdS (sx old i) (sx new j) (decide (i = j)) = some y → ∃ m, W = some m ∧ m ≤ y
  at_ : ∀ m, W = some m → ∃ i j, i < old.length ∧ j < old.length ∧ wdS (sx old i) (sx new j) (decide (i = j)) = some m
def spI (old new : List Sx) (q : Nat × Nat) : Int := if q.1 = q.2 then 0 else max 0 (1 - lgI (sx old q.1) (sx new q.2))
section
variable {F : FE} {old new : List Sx} (ho : ∀ s ∈ old, SOk s) (hn : ∀ s ∈ new, SOk s) (hl : old.length ≤ 20) (hlen : new.length = old.length)
include ho hn hl hlen
end
end Wc

namespace Wc
open PySem Wi Wp
def rB (f : Nat → Bool) (n : Nat) : List Bool := (List.range n).map f
theorem rB_len {f : Nat → Bool} {n : Nat} : (rB f n).length = n := by unfold rB; simp
/-- is the beat taken -/
def tk (ss : List Sx) (b : Int) : Bool := ss.any fun s => decide ((b - s.o) % (s.p : Int) < s.l)
end Wc

namespace Wc
open PySem Wi Wp
@[simp] theorem b_intb {b : Bool} : bF .int [.bool b] = some (.v (.int (if b = true then 1 else 0))) := rfl
theorem rgc_get {lo c : Int} {n k : Nat} {x : D} (h : (rgc lo c n)[k]? = some x) : k < n ∧ x = .int (lo + (k : Int) * c) := by
  unfold rgc at h
  rw [List.getElem?_map] at h
  obtain ⟨a, h1, rfl⟩ := Option.map_eq_some_iff.mp h
  obtain ⟨h2, h3⟩ := List.getElem?_eq_some_iff.mp h1
  rw [List.getElem_range] at h3
  rw [List.length_range] at h2
  subst h3
  exact ⟨h2, rfl⟩
end Wc

namespace Wc
open PySem Wi Wp
theorem item_S {f : Nat → Int} {n k : Nat} {i : Int} (hi : i = (k : Int)) (h : k < n) : item (.list (iD ((List.range n).map f))) (.int i) = some (.int (f k)) := by
  subst hi
  rw [item_l (by omega), nth_iD, Int.toNat_natCast, nth_mr h]; rfl
section
variable {F : FE} {g : Nat → Bool} {sp : Nat} (h1 : 1 ≤ sp) (h2 : sp ≤ 1000) (hp : ∀ n, g (n + sp) = g n)
include h1 h2 hp
end
end Wc

namespace Wc
open PySem Wi Wp
end Wc

namespace Wc
open PySem Wi Wp
structure Any (base : Nat) (s : Sx) : Prop where
  ok : SOk s
  d : s.p ∣ base
  p2 : 2 ≤ s.p
  o2 : s.o ≤ 1000
end Wc

namespace Wc
open PySem Wi Wp
end Wc

namespace Wc
open PySem Wi Wp
def gl (os : List (Option Int)) : Option Int := if none ∈ os then none else some (mxI (os.filterMap id))
structure Pl (A : List Int) (ex : Int) (k : Nat) (p : List (Option Int)) : Prop where
  len : p.length = k
  b : ∀ w b, p[w]? = some (some b) → 0 ≤ b ∧ b < gA A w + ex
end Wc

namespace Wc
open PySem Wi Wp
section
variable {A : List Int} {r m : Nat} (hA : ∀ w, w < A.length → 1 ≤ gA A w ∧ gA A w ≤ 5) (hr : 1 ≤ r) (hm : 1 ≤ m)
include hA hr hm
end
end Wc

namespace Wc
open PySem Wi Wp
section
variable {F : FE} {A : List Int} (h1 : 1 ≤ A.length) (hl : A.length ≤ 4) (hA : ∀ w, w < A.length → 1 ≤ gA A w ∧ gA A w ≤ 5)
include h1 hl hA
end
end Wc

namespace Wc
open PySem Wi Wp
end Wc

namespace Wc
open PySem Wi Wp
theorem sub_mul {P : Nat → Int} (hs : ∀ s t, P (s + t) ≤ P s + P t) {b : Nat} {v : Int} (hb : P b ≤ v) (r : Nat) : ∀ k : Nat, P (k * b + r) ≤ (k : Int) * v + P r
  | 0 => by simp
  | k + 1 => by
    have ih := sub_mul hs hb r k
    have h := hs b (k * b + r)
    rw [show (k + 1) * b + r = b + (k * b + r) by rw [Nat.succ_mul]; omega]
    have e : ((k + 1 : Nat) : Int) * v = (k : Int) * v + v := by rw [show ((k + 1 : Nat) : Int) = (k : Int) + 1 by omega, Int.add_mul, Int.one_mul]
    omega
/-- what holds of all values while it holds of the told ones and of a lap -/
theorem lo_all {c : Cv} (ok : c.Ok) {y : Int} {b : Nat} (h1 : ∀ s x, s < c.vs.length → cv c s = some x → y * s ≤ b * x) (h2 : c.p ≠ 0 → y * c.p ≤ b * c.m) : ∀ s x, cv c s = some x → y * s ≤ b * x := by
  intro s
  induction s using Nat.strongRecOn with
  | ind s ih =>
    intro x hx
    by_cases z : s < c.vs.length
    · exact h1 s x z hx
    · obtain ⟨hp, w, hw, rfl⟩ := cv_back ok (by omega) hx
      have hk := ok.p
      have a1 := ih (s - c.p) (by omega) w hw
      have a2 := h2 hp
      have e1 : y * (s : Int) = y * ((s - c.p : Nat) : Int) + y * c.p := by
        rw [← Int.mul_add]; congr 1; omega
      rw [e1, Int.mul_add]
      omega
theorem cl_low {f : Fo} {P : Nat → Int} (C : IsCl f P) {y : Int} {b : Nat} (h : ∀ t x, f t = some x → y * t ≤ b * x) : ∀ t : Nat, y * t ≤ b * P t := by
  intro t
  induction t using Nat.strongRecOn with
  | ind t ih =>
    rcases Nat.eq_zero_or_pos t with z | z
    · subst z; rw [C.z]; simp
    · obtain ⟨s, v, s1, s2, e, e2⟩ := C.ex t z
      have h1 := h s v e
      have h2 := ih (t - s) (by omega)
      rw [e2, Int.mul_add]
      have e3 : y * (t : Int) = y * s + y * ((t - s : Nat) : Int) := by rw [← Int.mul_add]; congr 1; omega
      omega
theorem rate_lap {P : Nat → Int} {h p : Nat} {m y : Int} {b : Nat} (hr : RepF P h p m) (hlo : ∀ t : Nat, y * t ≤ b * P t) : y * p ≤ b * m := by
  rcases Int.lt_or_le (b * m) (y * p) with z | z
  · exfalso
    obtain ⟨D, hD⟩ : ∃ D : Nat, (b : Int) * P h - y * h < D := ⟨((b : Int) * P h - y * h + 1).toNat, by omega⟩
    have h1 := rep_mul hr (Nat.le_refl h) D
    have h2 := hlo (h + D * p)
    rw [h1, Int.natCast_add, Int.natCast_mul, Int.mul_add, Int.mul_add] at h2
    have e1 : y * ((D : Int) * (p : Int)) = D * (y * p) := by ac_rfl
    have e2 : (b : Int) * ((D : Int) * m) = D * (b * m) := by ac_rfl
    have h3 : (D : Int) * (b * m + 1) ≤ D * (y * p) := Int.mul_le_mul_of_nonneg_left (by omega) (by omega)
    rw [Int.mul_add, Int.mul_one] at h3
    omega
  · exact z
end Wc

namespace Wc
open PySem Wi Wp
section
variable {P R : Nat → Int} (p0 : P 0 = 0) (r0 : R 0 = 0) (pm : ∀ s t, s ≤ t → P s ≤ P t) (rm : ∀ s t, s ≤ t → R s ≤ R t) (ps : ∀ s t, P (s + t) ≤ P s + P t)
include p0 r0 pm rm ps
end
end Wc

namespace Wc
open PySem Wi Wp
def plC (cm lz r : Nat → Int) : Nat → Int
  | 0 => 0
  | t + 1 => min (cm (t + 1)) (max (plC cm lz r t) (lz (t + 1) + r (t + 1)))
section
variable {F : FE} {f g : Cv} (okf : f.Ok) (okg : g.Ok) (hf : f.p ≠ 0) (hg : g.p ≠ 0) {N : Nat} (hN : N ≤ 1000000) {ir iv : Nat}
  (hr : F ir [cD f, cD g] = some (.v (.int N))) (hv : ∀ c : Cv, c.Ok → ∀ t : Nat, t ≤ 100000000 → F iv [cD c, .int t] = some (.v (oD (cv c t))))
include okf okg hf hg hN hr hv
end
end Wc

namespace Wc
open PySem Wi Wp
section
variable {F : FE} {P R : Nat → Int} (p0 : P 0 = 0) (r0 : R 0 = 0) (pm : ∀ s t, s ≤ t → P s ≤ P t) (rm : ∀ s t, s ≤ t → R s ≤ R t) (ps : ∀ s t, P (s + t) ≤ P s + P t)
  {pD sD' fD : D} {N : Nat} (hN : N ≤ 4000) (hPb : ∀ t, t ≤ 5000 → P t ≤ 500000)
  {ifl ibu iw ise ilo : Nat}
  (hbus : ∀ n : Nat, n ≤ 100000 → F ibu [fD, .int n] = some (.v (.tuple (iD (dfs P n)))))
  (hserve : ∀ (xs : List Int) (n : Nat), (∀ x ∈ xs, 0 ≤ x) → xs.length ≤ 100000 → n ≤ 100000 → F ise [.tuple (iD xs), sD', .int n] = some (.v (.tuple (iD (dfs (lz xs R) n)))))
  (hword : ∀ xs : List Int, xs.length ≤ 100000 → (∀ x ∈ xs, 0 ≤ x ∧ x < 1000000) → F iw [.tuple (iD xs), .int 1000000] = some (.v (.bool true)))
include p0 r0 pm rm ps hN hPb hbus hserve hword
end
end Wc

namespace Wc
open PySem Wi Wp
section
variable {F : FE} {P R : Nat → Int} (p0 : P 0 = 0) (r0 : R 0 = 0) (pm : ∀ s t, s ≤ t → P s ≤ P t) (rm : ∀ s t, s ≤ t → R s ≤ R t)
  {pD sD' : D} {row : List Int} {c : Nat → Int} {K : Nat} (hc : ∀ k, k < K → nth row k = some (c k)) (hb : ∀ k, 0 ≤ c k ∧ c k < 1000003) (hK : 58 ≤ K)
  {it ik il ig ip iw : Nat}
  (htot : ∀ ys : List Int, ys.length ≤ 1000 → F it [.tuple (iD ys)] = some (.l (iD (sms ys (ys.length + 1)))))
  (hkept : ∀ (xs : List Int) (o : Nat → Int), (∀ k, k < xs.length → nth xs k = some (o k)) → xs.length ≤ 1000 → F ik [pD, .list (iD xs)] = some (.v (.tuple (iD (kp P o xs.length)))))
  (hlazy : ∀ (ys : List Int) (m : Nat), ys.length ≤ 1000 → m ≤ 1000 → F il [.tuple (iD ys), sD', .int m] = some (.l (iD ((List.range (m + 1)).map (lz ys R)))))
  (hgaps : ∀ (f : Nat → Int) (m : Nat), m ≤ 1000 → F ig [.list (iD ((List.range (m + 1)).map f))] = some (.v (.tuple (iD (dfs f m)))))
  (hplain : ∀ (cm l : Nat → Int) (n : Nat), n ≤ 1000 → F ip [.list (iD ((List.range (n + 1)).map cm)), .list (iD ((List.range (n + 1)).map l)), .list (iD row), .int 50] = some (.l (iD ((List.range (n + 1)).map (plC cm l fun t => c (50 + t % 6) % 3)))))
  (hwaits : ∀ (cm C : Nat → Int) (n L : Nat), n ≤ 1000 → (∀ b, b + 1 + L ≤ n → cm (b + 1) ≤ C (b + 1 + L)) → ∃ w : Int, F iw [.list (iD ((List.range (n + 1)).map cm)), .list (iD ((List.range (n + 1)).map C))] = some (.v (.int w)) ∧ w ≤ L)
include p0 r0 pm rm hc hb hK htot hkept hlazy hgaps hplain hwaits
end
end Wc

namespace Wc
open PySem Wi Wp
theorem high_of {c : Cv} (ok : c.Ok) (h0 : c.p ≠ 0) {B : Int} (hb : ∀ x ∈ c.vs, x ≤ B) (hm : 0 ≤ c.m) (t : Nat) : c.p * cvI c t ≤ B * c.p + c.m * t := by
  induction t using Nat.strongRecOn with
  | ind t ih =>
    by_cases h1 : t < c.vs.length
    · rw [cvI_lt h1]
      have h2 := hb _ (List.getElem_mem h1)
      have h3 : (c.p : Int) * c.vs[t] ≤ c.p * B := Int.mul_le_mul_of_nonneg_left h2 (by omega)
      have h4 : 0 ≤ c.m * (t : Int) := Int.mul_nonneg hm (by omega)
      rw [Int.mul_comm B]
      omega
    · rw [cvI_step ok h0 h1, Int.mul_add]
      have hk := ok.p
      have h2 := ih (t - c.p) (by omega)
      have h3 : c.m * (t : Int) = c.m * ((t - c.p : Nat) : Int) + c.p * c.m := by
        rw [Int.mul_comm (c.p : Int), ← Int.mul_add]
        congr 1
        omega
      omega
structure Pm (c : Cv) (P : Nat → Int) : Prop where
  ok : c.Ok
  l2 : 2 ≤ c.vs.length
  l40 : c.vs.length ≤ 40
  z : nth c.vs 0 = some 0
  b : ∀ x ∈ c.vs, 0 ≤ x ∧ x ≤ 12
  m : 0 ≤ c.m ∧ c.m ≤ 12
  C : IsCl (cv c) P
  mono : ∀ s t, s ≤ t → P s ≤ P t
  far : ∃ (H lap : Nat) (rise : Int), RepF P H lap rise ∧ lap ≠ 0 ∧ (4 < c.vs.length → H ≤ 40 ∧ lap ∣ c.p) ∧ (c.vs.length ≤ 4 → H ≤ 130 ∧ lap ∣ Nat.lcm 12 (max 1 c.p))
/-- the least rate among the told ones -/
structure Rat (c : Cv) (y : Int) (b : Nat) : Prop where
  b1 : 1 ≤ b
  b2 : b ≤ 40
  y0 : 0 ≤ y ∧ y ≤ 12
  at_ : (cv c b = some y ∧ b < c.vs.length) ∨ (c.p ≠ 0 ∧ b = c.p ∧ y = c.m)
  lo : ∀ s (h : s < c.vs.length), 1 ≤ s → y * s ≤ b * c.vs[s]
  lp : c.p ≠ 0 → y * c.p ≤ b * c.m
section
variable {c : Cv} {P : Nat → Int} {y : Int} {b : Nat} (p : Pm c P) (r : Rat c y b)
include p
theorem Pm.sub (s t : Nat) : P (s + t) ≤ P s + P t := cl_sub p.C s t
theorem Pm.one {x : Int} (h : cv c 1 = some x) : P 1 = x := by
  obtain ⟨s, v, s1, s2, e, e2⟩ := p.C.ex 1 (Nat.le_refl _)
  have : s = 1 := by omega
  subst this
  rw [h] at e
  cases e
  rw [e2, Nat.sub_self, p.C.z]; omega
theorem Pm.nn (t : Nat) : 0 ≤ P t := by
  have := p.mono 0 t (by omega)
  rw [p.C.z] at this; exact this
theorem Pm.up {t : Nat} {x : Int} (h : cv c t = some x) (ht : 1 ≤ t) : P t ≤ x := by
  have := p.C.le t t x ht (Nat.le_refl _) h
  rw [Nat.sub_self, p.C.z] at this
  omega
include r
theorem Pm.lo (t : Nat) : y * t ≤ b * P t := by
  refine cl_low p.C (lo_all p.ok (fun s x hs hx => ?_) r.lp) t
  rcases Nat.eq_zero_or_pos s with z | z
  · subst z
    have h0 : (0 : Int) ≤ x := by
      rw [cv_lt hs] at hx
      have := p.b _ (List.getElem_mem hs)
      have := Option.some.inj hx
      omega
    have := Int.mul_nonneg (show (0 : Int) ≤ b by omega) h0
    simp
    exact this
  · rw [cv_lt hs] at hx
    cases hx
    exact r.lo s hs z
theorem Pm.hi (t : Nat) : b * P t ≤ 12 * b + y * t := by
  have b1 := r.b1
  rcases r.at_ with ⟨e, hb⟩ | ⟨hp, rfl, rfl⟩
  · have h1 := sub_mul p.sub (p.up e b1) (t % b) (t / b)
    have e' := Nat.mod_add_div t b
    rw [Nat.mul_comm] at e'
    rw [show t / b * b + t % b = t by omega] at h1
    have hr : P (t % b) ≤ 12 := by
      rcases Nat.eq_zero_or_pos (t % b) with z | z
      · rw [z, p.C.z]; omega
      · have hlt : t % b < c.vs.length := by have := Nat.mod_lt t (show 0 < b by omega); omega
        have := p.up (cv_lt hlt) z
        have := (p.b _ (List.getElem_mem hlt)).2
        omega
    have h3 : (b : Int) * P t ≤ b * (((t / b : Nat) : Int) * y + 12) := Int.mul_le_mul_of_nonneg_left (by omega) (by omega)
    have h4 : (b : Int) * (((t / b : Nat) : Int) * y) ≤ y * t := by
      rw [← Int.mul_assoc, Int.mul_comm _ y]
      refine Int.mul_le_mul_of_nonneg_left ?_ r.y0.1
      have := Nat.div_mul_le_self t b
      rw [Int.mul_comm, ← Int.natCast_mul]
      omega
    rw [Int.mul_add] at h3
    omega
  · have h1 := high_of p.ok hp (fun x hx => (p.b x hx).2) p.m.1 t
    rcases Nat.eq_zero_or_pos t with z | z
    · subst z
      rw [p.C.z]; simp; omega
    · have h3 := p.up (cv_int p.ok hp t) z
      have h4 : (c.p : Int) * P t ≤ c.p * cvI c t := Int.mul_le_mul_of_nonneg_left h3 (by omega)
      omega
/-- a lap's rise is at the rate -/
theorem Pm.rate {H lap : Nat} {rise : Int} (hr : RepF P H lap rise) : y * lap = b * rise := by
  refine Int.le_antisymm (rate_lap hr (p.lo r)) ?_
  rcases Int.lt_or_le (y * lap) (b * rise) with z | z
  · exfalso
    obtain ⟨D, hD⟩ : ∃ D : Nat, 12 * (b : Int) + y * H < D := ⟨(12 * (b : Int) + y * H + 1).toNat, by omega⟩
    have h1 := rep_mul hr (Nat.le_refl H) D
    have h2 := p.hi r (H + D * lap)
    have h0 := Int.mul_nonneg (show (0 : Int) ≤ b by omega) (p.nn H)
    rw [h1, Int.natCast_add, Int.natCast_mul, Int.mul_add, Int.mul_add] at h2
    have e1 : y * ((D : Int) * (lap : Int)) = D * (y * lap) := by ac_rfl
    have e2 : (b : Int) * ((D : Int) * rise) = D * (b * rise) := by ac_rfl
    have h3 : (D : Int) * (y * lap + 1) ≤ D * (b * rise) := Int.mul_le_mul_of_nonneg_left (by omega) (by omega)
    rw [Int.mul_add, Int.mul_one] at h3
    omega
  · exact z
end
structure Fr (R : Nat → Int) (span : Nat) (free : Int) : Prop where
  s1 : 1 ≤ span
  z : R 0 = 0
  mono : ∀ s t, s ≤ t → R s ≤ R t
  rep : RepF R 0 span free
theorem Fr.nn {R : Nat → Int} {span : Nat} {free : Int} (f : Fr R span free) : 0 ≤ free := by
  have h1 := f.rep 0 (Nat.le_refl _)
  have h2 := f.mono 0 (0 + span) (by omega)
  omega
theorem Fr.low {R : Nat → Int} {span : Nat} {free : Int} (f : Fr R span free) (t : Nat) : free * ((t : Int) - span) ≤ span * R t := by
  have s1 := f.s1
  have h1 := rep_mul f.rep (t := t % span) (Nat.zero_le _) (t / span)
  have e := Nat.mod_add_div t span
  rw [Nat.mul_comm] at e
  rw [e] at h1
  have h2 := f.mono 0 (t % span) (by omega)
  rw [f.z] at h2
  have h3 := Nat.mod_lt t (show 0 < span by omega)
  have h4 : (span : Int) * (((t / span : Nat) : Int) * free) ≤ span * R t := Int.mul_le_mul_of_nonneg_left (by omega) (by omega)
  have h5 : free * ((t : Int) - span) ≤ free * (((t / span * span : Nat)) : Int) := Int.mul_le_mul_of_nonneg_left (by omega) f.nn
  have e2 : (span : Int) * (((t / span : Nat) : Int) * free) = free * ((t / span * span : Nat) : Int) := by rw [Int.natCast_mul]; ac_rfl
  omega
theorem Fr.zero {R : Nat → Int} {span : Nat} (f : Fr R span 0) (t : Nat) : R t = 0 := by
  have h1 := rep_mul f.rep (t := 0) (Nat.zero_le _) t
  rw [Int.mul_zero, f.z, Nat.zero_add] at h1
  have h2 := f.mono t (t * span) (Nat.le_mul_of_pos_right _ f.s1)
  have h3 := f.mono 0 t (by omega)
  rw [f.z] at h3
  omega
end Wc

namespace Wc
open PySem Wi Wp
end Wc

namespace Wc
open PySem Wi Wp
/-- the run of taken beats that ends ahead of n -/
def rl (g : Nat → Bool) : Nat → Nat
  | 0 => 0
  | n + 1 => if g n = true then rl g n + 1 else 0
def lg (g : Nat → Bool) : Nat → Nat
  | 0 => 0
  | n + 1 => max (lg g n) (rl g (n + 1))
section
variable {F : FE} {g : Nat → Bool} {sp : Nat} (h1 : 1 ≤ sp) (h2 : sp ≤ 1000) (hp : ∀ n, g (n + sp) = g n)
include h1 h2 hp
end
end Wc

namespace Wc
open PySem Wi Wp
section
variable {F : FE} {c : Cv} {P : Nat → Int} (p : Pm c P)
include p
end
end Wc

namespace Wc
open PySem Wi Wp
section
variable {F : FE} {c : Cv} {P : Nat → Int} {y : Int} {b : Nat} (p : Pm c P) (r : Rat c y b)
include p r
end
section
variable {F : FE} {c : Cv} {P R : Nat → Int} {span far : Nat} {free : Int} (f : Fr R span free) (s2 : span ≤ 60) (hP0 : ∀ t, 0 ≤ P t) (hPb : ∀ t, t ≤ 5000 → P t ≤ 100000) (hf5 : far ≤ 5000) {bs : List Bool} (hbs : bs.length = span)
  {ih ifr ifa irw : Nat} (hfree : F ifr [.list (bD bs)] = some (.v (.tuple [.list (iD ((List.range span).map R)), .int free]))) (hfar : F ifa [cD c, .int span] = some (.v (.int far))) (hrow : F irw [cD c, .int far] = some (.l (iD ((List.range (far + 1)).map P))))
include f s2 hP0 hPb hf5 hbs hfree hfar hrow
end
end Wc

namespace Wc
open PySem Wi Wp
section
variable {F : FE} {row : List Int} {c : Nat → Int} {K : Nat} (hc : ∀ k, k < K → nth row k = some (c k)) (hb : ∀ k, 0 ≤ c k ∧ c k < 1000003) (hK : K ≤ 1000)
include hc hb hK
end
end Wc

namespace Wc
open PySem Wi Wp
def lworst79 (c_law_far c_law_closed_row c_law_played : Nat) : Df := ⟨12, [.asg 2 (.bi .len [(.var 1)]), .asg 3 (.call c_law_far [(.var 0), (.var 2)]), .asg 4 (.call c_law_closed_row [(.var 0), (.bin .add (.var 3) (.lit (.int 1)))]), .asg 5 (.comp (.bin .sub (.ix (.var 4) (.bin .add (.var 11) (.lit (.int 1)))) (.ix (.var 4) (.var 11))) (.n 11) .rng [(.bin .add (.var 3) (.lit (.int 1)))] [11] none), .asg 6 (.lit (.int 0)), .asg 7 (.lit (.int 0)), .for_ (.n 8) .rng [(.var 2)] [.unp [(.n 9), (.n 10)] (.call c_law_played [(.var 5), (.var 1), (.var 8), (.bin .add (.bin .add (.var 3) (.bin .mul (.lit (.int 12)) (.var 2))) (.lit (.int 40)))]), .asg 6 (.bi .mx [(.var 6), (.var 9)]), .asg 7 (.bi .mx [(.var 7), (.var 10)])], .ret (.tup [(.var 6), (.var 7)])]⟩
def Aq (P : Nat → Int) (n b : Nat) : Int := P (min b n)
def Gq (P : Nat → Int) (fr : Nat → Bool) (n : Nat) : Nat → Nat
  | 0 => 0
  | b + 1 => if (Gq P fr n b : Int) < Aq P n (b + 1) ∧ fr b = true then Gq P fr n b + 1 else Gq P fr n b
def Ff (fr : Nat → Bool) : Nat → Int
  | 0 => 0
  | b + 1 => Ff fr b + (if fr b = true then 1 else 0)
section
variable {P : Nat → Int} {fr : Nat → Bool} {n : Nat} (p0 : P 0 = 0) (pm : ∀ s t, s ≤ t → P s ≤ P t)
include p0 pm
variable {R : Nat → Int} (ps : ∀ s t, P (s + t) ≤ P s + P t) (hw : ∀ s t, s ≤ t → R (t - s) ≤ Ff fr t - Ff fr s)
include ps
include hw
end
end Wc

namespace Wc
open PySem Wi Wp
def Srv (P : Nat → Int) (fr : Nat → Bool) (n b : Nat) : Prop := (Gq P fr n b : Int) < Aq P n (b + 1) ∧ fr b = true
structure Play (P : Nat → Int) (fr : Nat → Bool) (n : Nat) (b : Nat) (sl mo : Int) : Prop where
  s0 : 0 ≤ sl
  m0 : 0 ≤ mo
  mu : ∀ M, 0 ≤ M → (∀ T, Aq P n T - Gq P fr n T ≤ M) → mo ≤ M
  su : ∀ L : Int, 0 ≤ L → (∀ c a : Nat, Srv P fr n c → P a ≤ Gq P fr n c → (Gq P fr n c : Int) < P (a + 1) → a < n → (c : Int) - a ≤ L) → sl ≤ L
  ml : ∀ T, 1 ≤ T → T ≤ b → Aq P n T - Gq P fr n T ≤ mo
  sl' : ∀ c a : Nat, c < b → Srv P fr n c → P a ≤ Gq P fr n c → (Gq P fr n c : Int) < P (a + 1) → a < n → (c : Int) - a ≤ sl
end Wc

namespace Wc
open PySem Wi Wp
structure Worst (P : Nat → Int) (g : Nat → Bool) (span n count : Nat) (S M : Int) : Prop where
  s0 : 0 ≤ S
  m0 : 0 ≤ M
  sl : ∀ s0, s0 < span → ∃ sl mo, Play P (fun b => !g (s0 + b)) n count sl mo ∧ sl ≤ S ∧ mo ≤ M
  su : ∀ U, 0 ≤ U → (∀ s0, s0 < span → ∀ sl mo, Play P (fun b => !g (s0 + b)) n count sl mo → sl ≤ U) → S ≤ U
  mu : ∀ U, 0 ≤ U → (∀ s0, s0 < span → ∀ sl mo, Play P (fun b => !g (s0 + b)) n count sl mo → mo ≤ U) → M ≤ U
theorem worst_ok {F : FE} {c : Cv} {P : Nat → Int} {g : Nat → Bool} {span far : Nat} (h2 : span ≤ 1000) (hf : far ≤ 5000) {ifa irw ipl : Nat}
    (hfar : F ifa [cD c, .int span] = some (.v (.int far))) (hrow : F irw [cD c, .int ((far + 1 : Nat))] = some (.l (iD ((List.range (far + 2)).map P))))
    (hplay : ∀ s0, s0 < span → ∃ sl mo, F ipl [.list (iD ((List.range (far + 1)).map fun t => P (t + 1) - P t)), .list (bD (rB g span)), .int s0, .int ((far + 12 * span + 40 : Nat))] = some (.v (.tuple [.int sl, .int mo])) ∧ Play P (fun b => !g (s0 + b)) (far + 1) (far + 12 * span + 40) sl mo) :
    ∃ S M, callD F (lworst79 ifa irw ipl) [cD c, .list (bD (rB g span))] = some (.v (.tuple [.int S, .int M])) ∧ Worst P g span (far + 1) (far + 12 * span + 40) S M := by
  suffices h : Rets (callD F (lworst79 ifa irw ipl) [cD c, .list (bD (rB g span))]) fun r => ∃ S M, r = .v (.tuple [.int S, .int M]) ∧ Worst P g span (far + 1) (far + 12 * span + 40) S M by
    obtain ⟨_, e, S, M, rfl, h⟩ := h
    exact ⟨S, M, e, h⟩
  have hl : (bD (rB g span)).length = span := by rw [bD_len, rB_len]
  have hrow : F irw [cD c, .int ((far : Int) + 1)] = some (.l (iD ((List.range (far + 2)).map P))) := by rw [Int.natCast_add] at hrow; exact hrow
  have tf : ((far : Int) + 1).toNat = far + 1 := by omega
  refine rets_f ?_
  unfold lworst79 Wi.start
  refine stp_cons ?_
  conv => arg 5; simp -implicitDefEqProofs [hl]
  refine stp_nx.mpr (stp_cons ?_)
  conv => arg 5; simp -implicitDefEqProofs [hfar]
  refine stp_nx.mpr (stp_cons ?_)
  conv => arg 5; simp -implicitDefEqProofs [hrow]
  refine stp_nx.mpr (stp_cons ?_)
  have hcomp := comp_rg (F := F) (elt := .bin .sub (.ix (.var 4) (.bin .add (.var 11) (.lit (.int 1)))) (.ix (.var 4) (.var 11))) (t := .n 11) (vars := [11]) (cond := none) (env := [.v (cD c), .v (.list (bD (rB g span))), .v (.int span), .v (.int far), .own (iD ((List.range (far + 2)).map P)), .no, .no, .no, .no, .no, .no, .no]) (lo := 0) (n := far + 1) (fun t => .int (P (t + 1) - P t)) (by omega) fun t ht => by
    have a1 := item_S (f := P) (n := far + 2) (k := t + 1) (i := (t : Int) + 1) (by omega) (by omega)
    have a2 := item_S (f := P) (n := far + 2) (k := t) (i := (t : Int)) (by omega) (by omega)
    simp -implicitDefEqProofs [a1, a2]
  have hi : (List.range (far + 1)).map (fun t => PyData.int (P (t + 1) - P t)) = iD ((List.range (far + 1)).map fun t => P (t + 1) - P t) := by unfold iD; rw [List.map_map]; rfl
  rw [hi] at hcomp
  conv => arg 5; simp -implicitDefEqProofs (disch := omega) [rng1, tf, hcomp]
  generalize hsl : iD ((List.range (far + 1)).map fun t => P (t + 1) - P t) = sl at *
  refine stp_nx.mpr (stp_cons ?_)
  conv => arg 5; simp -implicitDefEqProofs
  refine stp_nx.mpr (stp_cons ?_)
  conv => arg 5; simp -implicitDefEqProofs
  refine stp_nx.mpr ?_
  conv => arg 5; simp -implicitDefEqProofs (disch := omega) [rng1]
  have hcn : (far : Int) + 12 * (span : Int) + 40 = ((far + 12 * span + 40 : Nat) : Int) := by omega
  refine stp_rgn span (fun k e => ∃ (S M : Int) (s8 s9 s10 : Sl), e = [.v (cD c), .v (.list (bD (rB g span))), .v (.int span), .v (.int far), .own (iD ((List.range (far + 2)).map P)), .own sl, .v (.int S), .v (.int M), s8, s9, s10, .no] ∧ 0 ≤ S ∧ 0 ≤ M ∧ (∀ s0, s0 < k → ∃ sl mo, Play P (fun b => !g (s0 + b)) (far + 1) (far + 12 * span + 40) sl mo ∧ sl ≤ S ∧ mo ≤ M) ∧ (∀ U, 0 ≤ U → (∀ s0, s0 < span → ∀ sl mo, Play P (fun b => !g (s0 + b)) (far + 1) (far + 12 * span + 40) sl mo → sl ≤ U) → S ≤ U) ∧ (∀ U, 0 ≤ U → (∀ s0, s0 < span → ∀ sl mo, Play P (fun b => !g (s0 + b)) (far + 1) (far + 12 * span + 40) sl mo → mo ≤ U) → M ≤ U)) (by omega)
    ⟨0, 0, _, _, _, rfl, Int.le_refl _, Int.le_refl _, fun s0 h => by omega, fun U h _ => h, fun U h _ => h⟩ ?_ ?_
  · rintro k e hk ⟨S, M, s8, s9, s10, rfl, i1, i2, i3, i4, i5⟩
    obtain ⟨a, m, x1, pl⟩ := hplay k hk
    rw [← hcn] at x1
    conv => arg 5; simp -implicitDefEqProofs (disch := omega) [o2_mul, x1]
    refine stp_nx.mpr ⟨max S a, max M m, _, _, _, rfl, by omega, by omega, fun s0 h => ?_, fun U h0 h => ?_, fun U h0 h => ?_⟩
    · by_cases z : s0 = k
      · subst z; exact ⟨a, m, pl, by omega, by omega⟩
      · obtain ⟨a', m', p', q1, q2⟩ := i3 s0 (by omega)
        exact ⟨a', m', p', by omega, by omega⟩
    · have := i4 U h0 h
      have := h k hk a m pl
      omega
    · have := i5 U h0 h
      have := h k hk a m pl
      omega
  · rintro e ⟨S, M, s8, s9, s10, rfl, i1, i2, i3, i4, i5⟩
    conv => arg 5; simp -implicitDefEqProofs
    exact stp_rt.mpr ⟨S, M, rfl, ⟨i1, i2, i3, i4, i5⟩⟩
section
variable {P : Nat → Int} {g : Nat → Bool} {span far : Nat} {S M : Int} (p0 : P 0 = 0) (pm : ∀ s t, s ≤ t → P s ≤ P t) (ps : ∀ s t, P (s + t) ≤ P s + P t) (h1 : 1 ≤ span) (hp : ∀ n, g (n + span) = g n) (w : Worst P g span (far + 1) (far + 12 * span + 40) S M)
include p0 pm ps h1 hp w
end
end Wc

namespace Wc
open PySem Wi Wp
end Wc

namespace Wc
open PySem Wi Wp
/-- the beats are told to here -/
def nnF (f g : Cv) : Nat := if g.p = 0 then g.vs.length else if f.p = 0 then f.vs.length + 1 else max (hd f) (hd g) + Nat.lcm f.p g.p
def gnF (f g : Cv) : Int := (Nat.lcm f.p g.p / f.p : Nat) * f.m - (Nat.lcm f.p g.p / g.p : Nat) * g.m
/-- what is asked of the numbers -/
structure FaOk (f g : Cv) : Prop where
  okf : f.Ok
  okg : g.Ok
  n : nnF f g ≤ 1000000
  gn : f.p ≠ 0 → g.p ≠ 0 → fasB f g = true → gnF f g < 1073741824
end Wc

namespace Wc
open PySem Wi Wp
end Wc

namespace Wc
open PySem Wi Wp
def upto (c_value_of : Nat) : Df := ⟨2, [.ret (.ife (.cmp .eq (.var 1) (.lit (.int 0))) (.lit (.int 0)) (.call c_value_of [(.att "Count" (.var 0) "curve"), (.bin .add (.var 1) (.att "Count" (.var 0) "shift"))]))]⟩
def need_load (c_Place_is_too_much : Nat) : Df := ⟨1, [.ite (.meth "Place" "is_too_much" c_Place_is_too_much (.var 0) []) [.nev] []]⟩
def dead (c_value_of : Nat) : Df := ⟨2, [.ret (.bin .mul (.att "Place" (.var 0) "stretch") (.call c_value_of [(.att "Place" (.var 0) "faults"), (.var 1)]))]⟩
def above (c_Count_upto : Nat) : Df := ⟨4, [.ret (.bi .sum [(.comp (.bin .mul (.var 2) (.meth "Count" "upto" c_Count_upto (.var 3) [(.var 1)])) (.t [(.n 2), (.n 3)]) .val [(.att "Place" (.var 0) "higher")] [2, 3] none)])]⟩
def busy (c_Place_dead c_Count_upto c_Place_above : Nat) : Df := ⟨2, [.ret (.bin .add (.bin .add (.bin .add (.att "Place" (.var 0) "block") (.meth "Place" "dead" c_Place_dead (.var 0) [(.var 1)])) (.bin .mul (.att "Place" (.var 0) "size") (.meth "Count" "upto" c_Count_upto (.att "Place" (.var 0) "count") [(.var 1)]))) (.meth "Place" "above" c_Place_above (.var 0) [(.var 1)]))]⟩
def span (c_Place_busy : Nat) : Df := ⟨3, [.asg 1 (.lit (.int 1)), .asg 2 (.meth "Place" "busy" c_Place_busy (.var 0) [(.var 1)]), .whl (.cmp .gt (.var 2) (.var 1)) [.asg 1 (.var 2), .asg 2 (.meth "Place" "busy" c_Place_busy (.var 0) [(.var 1)])], .ret (.var 1)]⟩
def comings (c_Count_upto : Nat) : Df := ⟨5, [.asg 2 (.lst []), .asg 3 (.lit (.int 0)), .for_ (.n 4) .rng [(.var 1)] [.whl (.cmp .le (.meth "Count" "upto" c_Count_upto (.att "Place" (.var 0) "count") [(.bin .add (.var 3) (.lit (.int 1)))]) (.var 4)) [.aug 3 .add (.lit (.int 1))], .app 2 (.var 3)], .ret (.var 2)]⟩
def greatest (c_Place_need_load c_Count_upto c_Place_span c_Place_rows c_Place_comings : Nat) : Df := ⟨5, [.ex (.meth "Place" "need_load" c_Place_need_load (.var 0) []), .asg 1 (.meth "Count" "upto" c_Count_upto (.att "Place" (.var 0) "count") [(.meth "Place" "span" c_Place_span (.var 0) [])]), .asg 2 (.meth "Place" "rows" c_Place_rows (.var 0) [(.var 1)]), .ret (.bi .mx [(.comp (.bin .sub (.ix (.var 3) (.lit (.int 1))) (.var 4)) (.t [(.n 3), (.n 4)]) .zip [(.var 2), (.meth "Place" "comings" c_Place_comings (.var 0) [(.var 1)])] [3, 4] none)])]⟩
/-- frames of a class: size, curve -/
structure Pt where
  s : Int
  c : Cv
def ptD (q : Pt) : D := .tuple [.int q.s, cD q.c]
def cnD (c : Cv) : D := insD "Count" ["curve", "shift"] [cD c, .int 0]
def hqD (q : Pt) : D := .tuple [.int q.s, cnD q.c]
structure Plc where
  own : Pt
  hi : List Pt
  bl : Int
  fl : Pt
def plcD (p : Plc) : D := insD "Place" ["size", "count", "higher", "block", "stretch", "faults"] [.int p.own.s, cnD p.own.c, .list (p.hi.map hqD), .int p.bl, .int p.fl.s, cD p.fl.c]
@[simp] theorem a_curve {c : Cv} : attR "Count" "curve" (some (.v (cnD c))) = some (.v (cD c)) := attR_s rfl
@[simp] theorem a_shift {c : Cv} : attR "Count" "shift" (some (.v (cnD c))) = some (.v (.int 0)) := attR_s rfl
@[simp] theorem a_size {p : Plc} : attR "Place" "size" (some (.v (plcD p))) = some (.v (.int p.own.s)) := attR_s rfl
@[simp] theorem a_count {p : Plc} : attR "Place" "count" (some (.v (plcD p))) = some (.v (cnD p.own.c)) := attR_s rfl
@[simp] theorem a_higher {p : Plc} : attR "Place" "higher" (some (.v (plcD p))) = some (.v (.list (p.hi.map hqD))) := attR_s rfl
@[simp] theorem a_block {p : Plc} : attR "Place" "block" (some (.v (plcD p))) = some (.v (.int p.bl)) := attR_s rfl
@[simp] theorem a_stretch {p : Plc} : attR "Place" "stretch" (some (.v (plcD p))) = some (.v (.int p.fl.s)) := attR_s rfl
@[simp] theorem a_faults {p : Plc} : attR "Place" "faults" (some (.v (plcD p))) = some (.v (cD p.fl.c)) := attR_s rfl
@[simp] theorem m_upto {c : Cv} {g : List D → Option RV} {ds : List D} : methR "Count" "upto" g (some (.v (cnD c))) (some ds) = g (cnD c :: ds) := methR_s rfl
@[simp] theorem m_too {p : Plc} {g : List D → Option RV} {ds : List D} : methR "Place" "is_too_much" g (some (.v (plcD p))) (some ds) = g (plcD p :: ds) := methR_s rfl
@[simp] theorem m_need {p : Plc} {g : List D → Option RV} {ds : List D} : methR "Place" "need_load" g (some (.v (plcD p))) (some ds) = g (plcD p :: ds) := methR_s rfl
@[simp] theorem m_dead {p : Plc} {g : List D → Option RV} {ds : List D} : methR "Place" "dead" g (some (.v (plcD p))) (some ds) = g (plcD p :: ds) := methR_s rfl
@[simp] theorem m_above {p : Plc} {g : List D → Option RV} {ds : List D} : methR "Place" "above" g (some (.v (plcD p))) (some ds) = g (plcD p :: ds) := methR_s rfl
@[simp] theorem m_busy {p : Plc} {g : List D → Option RV} {ds : List D} : methR "Place" "busy" g (some (.v (plcD p))) (some ds) = g (plcD p :: ds) := methR_s rfl
@[simp] theorem m_span {p : Plc} {g : List D → Option RV} {ds : List D} : methR "Place" "span" g (some (.v (plcD p))) (some ds) = g (plcD p :: ds) := methR_s rfl
@[simp] theorem m_start {p : Plc} {g : List D → Option RV} {ds : List D} : methR "Place" "start" g (some (.v (plcD p))) (some ds) = g (plcD p :: ds) := methR_s rfl
@[simp] theorem m_end {p : Plc} {g : List D → Option RV} {ds : List D} : methR "Place" "end" g (some (.v (plcD p))) (some ds) = g (plcD p :: ds) := methR_s rfl
@[simp] theorem m_rows {p : Plc} {g : List D → Option RV} {ds : List D} : methR "Place" "rows" g (some (.v (plcD p))) (some ds) = g (plcD p :: ds) := methR_s rfl
@[simp] theorem m_comings {p : Plc} {g : List D → Option RV} {ds : List D} : methR "Place" "comings" g (some (.v (plcD p))) (some ds) = g (plcD p :: ds) := methR_s rfl
@[simp] theorem m_greatest {p : Plc} {g : List D → Option RV} {ds : List D} : methR "Place" "greatest" g (some (.v (plcD p))) (some ds) = g (plcD p :: ds) := methR_s rfl
theorem noLs_mp {α : Type} {h : α → D} (hn : ∀ a, noL (h a) = true) : ∀ xs : List α, noLs (xs.map h) = true
  | [] => rfl
  | a :: r => by
    show (noL (h a) && noLs (r.map h)) = true
    rw [hn a, noLs_mp hn r]; rfl
theorem noL_pt (q : Pt) : noL (ptD q) = true := by
  show (true && (noL (cD q.c) && true)) = true
  rw [show noL (cD q.c) = true from noL_cD q.c]; rfl
@[simp] theorem after_pt {qs : List Pt} {l : List Nat} {env : En} : after (.l (qs.map ptD)) l env = env := after_noL (noLs_mp noL_pt qs)
/-- a curve that begins with 0, lasts and never falls -/
structure Kv (c : Cv) : Prop where
  mn : Mn c
  z : cvI c 0 = 0
theorem Kv.nn {c : Cv} (k : Kv c) (t : Nat) : 0 ≤ cvI c t := by rw [← k.z]; exact k.mn.mono 0 t (Nat.zero_le _)
structure PtOk (q : Pt) : Prop where
  s0 : 0 ≤ q.s
  s1 : q.s ≤ 1000
  c : Kv q.c
structure PlOk (p : Plc) : Prop where
  own : PtOk p.own
  hi : ∀ q ∈ p.hi, PtOk q
  hl : p.hi.length ≤ 100
  bl : 0 ≤ p.bl
  fl : PtOk p.fl
def dd (p : Plc) (t : Nat) : Int := p.fl.s * cvI p.fl.c t
def abl (hi : List Pt) (t : Nat) : Int := (hi.map fun q => q.s * cvI q.c t).sum
def bsy (p : Plc) (t : Nat) : Int := p.bl + dd p t + p.own.s * cvI p.own.c t + abl p.hi t
theorem PtOk.nn {q : Pt} (o : PtOk q) (t : Nat) : 0 ≤ q.s * cvI q.c t := Int.mul_nonneg o.s0 (o.c.nn t)
theorem PtOk.mono {q : Pt} (o : PtOk q) {s t : Nat} (h : s ≤ t) : q.s * cvI q.c s ≤ q.s * cvI q.c t := Int.mul_le_mul_of_nonneg_left (o.c.mn.mono s t h) o.s0
theorem dd_nn {p : Plc} (o : PlOk p) (t : Nat) : 0 ≤ dd p t := o.fl.nn t
theorem dd_mono {p : Plc} (o : PlOk p) {s t : Nat} (h : s ≤ t) : dd p s ≤ dd p t := o.fl.mono h
theorem abl_nn : ∀ {hi : List Pt}, (∀ q ∈ hi, PtOk q) → ∀ t, 0 ≤ abl hi t
  | [], _, _ => Int.le_refl _
  | q :: r, h, t => by
    have h1 := (h q (List.mem_cons_self ..)).nn t
    have h2 := abl_nn (hi := r) (fun a ha => h a (List.mem_cons_of_mem _ ha)) t
    show 0 ≤ ((q.s * cvI q.c t) :: (r.map fun q => q.s * cvI q.c t)).sum
    rw [List.sum_cons]
    unfold abl at h2
    omega
theorem abl_mono : ∀ {hi : List Pt}, (∀ q ∈ hi, PtOk q) → ∀ {s t : Nat}, s ≤ t → abl hi s ≤ abl hi t
  | [], _, _, _, _ => Int.le_refl _
  | q :: r, h, s, t, hst => by
    have h1 := (h q (List.mem_cons_self ..)).mono hst
    have h2 := abl_mono (hi := r) (fun a ha => h a (List.mem_cons_of_mem _ ha)) hst
    show ((q.s * cvI q.c s) :: (r.map fun q => q.s * cvI q.c s)).sum ≤ ((q.s * cvI q.c t) :: (r.map fun q => q.s * cvI q.c t)).sum
    rw [List.sum_cons, List.sum_cons]
    unfold abl at h2
    omega
/-- the least place from x on that f does not pass -/
structure Lst (f : Nat → Int) (x S : Nat) : Prop where
  ge : x ≤ S
  fx : f S ≤ S
  min : ∀ y : Nat, x ≤ y → y < S → (y : Int) < f y
theorem Lst.uniq {f : Nat → Int} {x S T : Nat} (a : Lst f x S) (b : Lst f x T) : S = T := by
  rcases Nat.lt_trichotomy S T with h | h | h
  · have := b.min S a.ge h; have := a.fx; omega
  · exact h
  · have := a.min T b.ge h; have := b.fx; omega
theorem Lst.here {f : Nat → Int} {x S : Nat} (a : Lst f x S) {y : Nat} (h1 : x ≤ y) (h2 : y ≤ S) (h : f y ≤ y) : y = S := by
  rcases Nat.lt_or_ge y S with q | q
  · have := a.min y h1 q; omega
  · omega
section
variable {F : FE} {iv iu id ia ib is ie ir ico it ine isp : Nat} {p : Plc}
theorem compL_mp {α : Type} {f : D → Option (Option D)} {h g : α → D} : ∀ (xs : List α), (∀ a ∈ xs, f (h a) = some (some (g a))) → compL f (xs.map h) = some (xs.map g)
  | [], _ => rfl
  | a :: r, e => by
    rw [List.map_cons, List.map_cons, compL, e a (List.mem_cons_self ..), compL_mp r fun b hb => e b (List.mem_cons_of_mem _ hb)]
    rfl
theorem comp_mp {α : Type} {elt : E} {t : Tg} {vars : List Nat} {cond : Option E} {env : En} {xs : List α} (h g : α → D) (hn : xs.length ≤ 10000000) (e : ∀ a ∈ xs, compF F elt t vars cond env (h a) = some (some (g a))) :
    compR (compF F elt t vars cond env) (some (xs.map h)) = some (.l (xs.map g)) := by
  rw [compR_s (by rw [List.length_map]; exact hn), compL_mp xs e]; rfl
/-- the work that a frame waits for -/
def bgF (p : Plc) (i t : Nat) : Int := p.bl + (i : Int) * p.own.s + abl p.hi (t + 1) + dd p (t + 1)
def edF (p : Plc) (b t : Nat) : Int := (b : Int) + p.own.s - dd p (b + 1) + dd p t
theorem bg_base {p : Plc} (o : PlOk p) (i : Nat) : 0 ≤ p.bl + (i : Int) * p.own.s := by
  have := Int.mul_nonneg (show 0 ≤ (i : Int) by omega) o.own.s0
  have := o.bl
  omega
theorem bg_nn {p : Plc} (o : PlOk p) (i t : Nat) : 0 ≤ bgF p i t := by
  have h1 := dd_nn o (t + 1); have h2 := abl_nn o.hi (t + 1); have h3 := bg_base o i
  unfold bgF; omega
theorem bg_mono {p : Plc} (o : PlOk p) (i : Nat) (s t : Nat) (h : s ≤ t) : bgF p i s ≤ bgF p i t := by
  have h1 := dd_mono o (show s + 1 ≤ t + 1 by omega); have h2 := abl_mono o.hi (show s + 1 ≤ t + 1 by omega)
  unfold bgF; omega
def prB (sb se : Nat → Nat) (n : Nat) : List D := (List.range n).map fun i => .tuple [.int (sb i : Nat), .int (se i : Nat)]
@[simp] theorem after_prB {sb se : Nat → Nat} {n : Nat} {l : List Nat} {env : En} : after (.l (prB sb se n)) l env = env := after_noL (noLs_mp (fun _ => rfl) _)
/-- when the frames come -/
structure Com (c : Cv) (n : Nat) (com : Nat → Nat) : Prop where
  up : ∀ i, i < n → (i : Int) < cvI c (com i + 1)
  lo : ∀ i t, i < n → t < com i → cvI c (t + 1) ≤ i
theorem Com.mono {c : Cv} {n : Nat} {com : Nat → Nat} (k : Kv c) (C : Com c n com) {i j : Nat} (h : i ≤ j) (hj : j < n) : com i ≤ com j := by
  rcases Nat.lt_or_ge (com j) (com i) with q | q
  · have h1 := C.lo i (com j) (by omega) q
    have h2 := C.up j hj
    omega
  · exact q
def ld1 (x : Int × Int) (q : Pt) : Int × Int := (x.1 * q.c.p + q.s * q.c.m * x.2, x.2 * q.c.p)
def ldF (qs : List Pt) : Int × Int := qs.foldl ld1 (0, 1)
theorem ld_snoc (qs : List Pt) (q : Pt) : ldF (qs ++ [q]) = ld1 (ldF qs) q := by unfold ldF; rw [List.foldl_append]; rfl
def tooB (p : Plc) : Bool := decide (9 * (ldF (p.hi ++ [p.own, p.fl])).2 < 10 * (ldF (p.hi ++ [p.own, p.fl])).1)
def comD (com : Nat → Nat) (n : Nat) : List D := (List.range n).map fun i => .int (com i : Nat)
def grI (se com : Nat → Nat) (n : Nat) : Int := mxI ((List.range n).map fun i => ((se i : Nat) : Int) - (com i : Nat))
end
end Wc

namespace Wc
open PySem Wi Wp
theorem lst_ex {f : Nat → Int} {x B : Nat} (hx : x ≤ B) (hB : f B ≤ B) : ∃ S, Lst f x S ∧ S ≤ B := by
  obtain ⟨a, b, c⟩ := upN_spec (P := fun y : Nat => decide (f y ≤ (y : Int))) (B - x) x (by rw [show x + (B - x) = B by omega]; exact decide_eq_true hB)
  refine ⟨_, ⟨a, of_decide_eq_true b, fun y h1 h2 => ?_⟩, ?_⟩
  · have := of_decide_eq_false (c y h1 h2); omega
  · rcases Nat.lt_or_ge B (upN (fun y : Nat => decide (f y ≤ (y : Int))) (B - x) x) with q | q
    · have := c B hx q
      rw [decide_eq_true hB] at this
      cases this
    · exact q
structure PtE (q : Pt) : Prop where
  ok : PtOk q
  m1 : q.c.m ≤ 1000000
  ev : ∃ e : Int, 0 ≤ e ∧ q.s * e ≤ 120 ∧ ∀ t : Nat, q.c.p * cvI q.c t ≤ e * q.c.p + q.c.m * t
theorem PtE.ppos {q : Pt} (h : PtE q) : 0 < (q.c.p : Int) := by have := h.ok.c.mn.p; omega
theorem ld_env (t : Nat) : ∀ (qs : List Pt), (∀ q ∈ qs, PtE q) → ∀ (o u A : Int) (k : Nat), 0 < u → 0 ≤ o → u * A ≤ u * (120 * k) + o * t →
    0 < (qs.foldl ld1 (o, u)).2 ∧ 0 ≤ (qs.foldl ld1 (o, u)).1 ∧ (qs.foldl ld1 (o, u)).2 * (A + abl qs t) ≤ (qs.foldl ld1 (o, u)).2 * (120 * ((k + qs.length : Nat) : Int)) + (qs.foldl ld1 (o, u)).1 * t
  | [], _, o, u, A, k, hu, ho, h => by
    refine ⟨hu, ho, ?_⟩
    show u * (A + 0) ≤ u * (120 * ((k + 0 : Nat) : Int)) + o * t
    rw [Int.add_zero, Nat.add_zero]; exact h
  | q :: r, hq, o, u, A, k, hu, ho, h => by
    have E := hq q (List.mem_cons_self ..)
    obtain ⟨e, e0, e1, ev⟩ := E.ev
    have hp := E.ppos
    have s0 := E.ok.s0
    have m0 := E.ok.c.mn.m
    have ht := ev t
    have a1 : (q.c.p : Int) * (u * A) ≤ q.c.p * (u * (120 * k) + o * t) := Int.mul_le_mul_of_nonneg_left h (by omega)
    have a2 : q.s * ((q.c.p : Int) * cvI q.c t) ≤ q.s * (e * q.c.p + q.c.m * t) := Int.mul_le_mul_of_nonneg_left ht s0
    have a3 : q.s * e * q.c.p ≤ 120 * q.c.p := Int.mul_le_mul_of_nonneg_right e1 (by omega)
    have a4 : q.s * (e * q.c.p + q.c.m * t) = q.s * e * q.c.p + q.s * q.c.m * t := by rw [Int.mul_add]; ac_rfl
    have a5 : u * (q.s * ((q.c.p : Int) * cvI q.c t)) ≤ u * (120 * q.c.p + q.s * q.c.m * t) := Int.mul_le_mul_of_nonneg_left (by omega) (by omega)
    have b1 : (u * q.c.p) * (A + q.s * cvI q.c t) = (q.c.p : Int) * (u * A) + u * (q.s * ((q.c.p : Int) * cvI q.c t)) := by rw [Int.mul_add]; ac_rfl
    have b2 : (u * q.c.p) * (120 * ((k + 1 : Nat) : Int)) + (o * q.c.p + q.s * q.c.m * u) * t = (q.c.p : Int) * (u * (120 * k) + o * t) + u * (120 * q.c.p + q.s * q.c.m * t) := by
      rw [Int.natCast_add, Int.mul_add, Int.mul_add, Int.mul_add, Int.mul_add, Int.add_mul, show ((1 : Nat) : Int) = 1 from rfl, Int.mul_one]
      ac_rfl
    have step := ld_env t r (fun a ha => hq a (List.mem_cons_of_mem _ ha)) (o * q.c.p + q.s * q.c.m * u) (u * q.c.p) (A + q.s * cvI q.c t) (k + 1) (Int.mul_pos hu hp)
      (by have h1 := Int.mul_nonneg ho (show 0 ≤ (q.c.p : Int) by omega); have h2 := Int.mul_nonneg (Int.mul_nonneg s0 m0) (show 0 ≤ u by omega); omega) (by rw [b1, b2]; omega)
    have hab : abl (q :: r) t = q.s * cvI q.c t + abl r t := by unfold abl; rw [List.map_cons, List.sum_cons]
    rw [hab, ← Int.add_assoc, List.length_cons, show k + (r.length + 1) = k + 1 + r.length by omega]
    exact step
structure PlE (p : Plc) : Prop where
  own : PtE p.own
  hi : ∀ q ∈ p.hi, PtE q
  fl : PtE p.fl
  hl : p.hi.length ≤ 5
  bl : 0 ≤ p.bl ∧ p.bl ≤ 9
  s1 : 1 ≤ p.own.s ∧ p.own.s ≤ 10
  v1 : 1 ≤ cvI p.own.c 1
  fs : p.fl.s ≤ 10
  /-- a fault's curve rises soon -/
  lo : ∀ t : Nat, p.fl.c.m * ((t : Int) - 40) ≤ p.fl.c.p * cvI p.fl.c t
theorem PlE.ok {p : Plc} (E : PlE p) : PlOk p := ⟨E.own.ok, fun q h => (E.hi q h).ok, by have := E.hl; omega, E.bl.1, E.fl.ok⟩
theorem PlE.all {p : Plc} (E : PlE p) : ∀ q ∈ p.hi ++ [p.own, p.fl], PtE q := fun q hq => by
  rcases List.mem_append.mp hq with h | h
  · exact E.hi q h
  · rcases List.mem_cons.mp h with rfl | h
    · exact E.own
    · rw [List.mem_singleton.mp h]; exact E.fl
theorem abl_app (xs ys : List Pt) (t : Nat) : abl (xs ++ ys) t = abl xs t + abl ys t := by unfold abl; rw [List.map_append, List.sum_append]
theorem abl_two (a b : Pt) (t : Nat) : abl [a, b] t = a.s * cvI a.c t + b.s * cvI b.c t := by unfold abl; simp
theorem bsy_bound {p : Plc} (E : PlE p) (h : tooB p = false) (t : Nat) : 10 * bsy p t ≤ 10 * (p.bl + 840) + 9 * t := by
  obtain ⟨z0, z1, z2⟩ := ld_env t _ E.all 0 1 0 0 (by omega) (by omega) (by omega)
  have hh := of_decide_eq_false h
  have hf : ∀ qs : List Pt, qs.foldl ld1 (0, 1) = ldF qs := fun _ => rfl
  rw [hf] at z0 z1 z2
  rw [Int.zero_add, abl_app, abl_two, List.length_append] at z2
  have hl := E.hl
  generalize ldF (p.hi ++ [p.own, p.fl]) = z at *
  obtain ⟨o, u⟩ := z
  dsimp only at z0 z1 z2 hh
  have w1 : bsy p t = p.bl + (abl p.hi t + (p.own.s * cvI p.own.c t + p.fl.s * cvI p.fl.c t)) := by unfold bsy dd; omega
  rw [w1]
  generalize abl p.hi t + (p.own.s * cvI p.own.c t + p.fl.s * cvI p.fl.c t) = W at *
  have c1 : u * (120 * ((0 + (p.hi.length + [p.own, p.fl].length) : Nat) : Int)) ≤ u * 840 := Int.mul_le_mul_of_nonneg_left (by
    rw [show [p.own, p.fl].length = 2 from rfl]; omega) (by omega)
  have c2 : 10 * o * (t : Int) ≤ 9 * u * t := Int.mul_le_mul_of_nonneg_right (by omega) (by omega)
  have c3 : u * (10 * W) ≤ u * (8400 + 9 * t) := by
    have e1 : u * (10 * W) = 10 * (u * W) := by ac_rfl
    have e2 : u * (8400 + 9 * (t : Int)) = 10 * (u * 840) + 9 * u * t := by rw [Int.mul_add]; have : u * 8400 = 10 * (u * 840) := by omega
                                                                            rw [this]; ac_rfl
    have e3 : 10 * o * (t : Int) = 10 * (o * t) := by ac_rfl
    rw [e1, e2]
    omega
  have := Int.le_of_mul_le_mul_left c3 z0
  omega
theorem fl_load {p : Plc} (E : PlE p) (h : tooB p = false) : 10 * (p.fl.s * p.fl.c.m) ≤ 9 * p.fl.c.p := by
  have hh := of_decide_eq_false h
  have hall : ∀ q ∈ p.hi ++ [p.own], PtE q := fun q hq => E.all q (by
    rcases List.mem_append.mp hq with h | h
    · exact List.mem_append_left _ h
    · exact List.mem_append_right _ (by rw [List.mem_singleton.mp h]; exact List.mem_cons_self ..))
  obtain ⟨z0, z1, _⟩ := ld_env 0 _ hall 0 1 0 0 (by omega) (by omega) (by omega)
  have hf : ∀ qs : List Pt, qs.foldl ld1 (0, 1) = ldF qs := fun _ => rfl
  rw [hf] at z0 z1
  have e : ldF (p.hi ++ [p.own, p.fl]) = ld1 (ldF (p.hi ++ [p.own])) p.fl := by rw [← ld_snoc, List.append_assoc]; rfl
  rw [e] at hh
  generalize ldF (p.hi ++ [p.own]) = z at *
  obtain ⟨o, u⟩ := z
  have hp := E.fl.ppos
  have hh : ¬ 9 * (u * p.fl.c.p) < 10 * (o * p.fl.c.p + p.fl.s * p.fl.c.m * u) := hh
  dsimp only at z0 z1
  have h1 := Int.mul_nonneg z1 (show 0 ≤ (p.fl.c.p : Int) by omega)
  have h2 : u * (10 * (p.fl.s * p.fl.c.m)) ≤ u * (9 * p.fl.c.p) := by
    have e1 : u * (10 * (p.fl.s * p.fl.c.m)) = 10 * (p.fl.s * p.fl.c.m * u) := by ac_rfl
    have e2 : u * (9 * (p.fl.c.p : Int)) = 9 * (u * p.fl.c.p) := by ac_rfl
    rw [e1, e2]
    omega
  exact Int.le_of_mul_le_mul_left h2 z0
structure Rn where
  S : Nat
  n : Nat
  sb : Nat → Nat
  se : Nat → Nat
  com : Nat → Nat
structure Run (p : Plc) (r : Rn) : Prop where
  L : Lst (bsy p) 1 r.S
  n : (r.n : Int) = cvI p.own.c r.S
  n1 : 1 ≤ r.n
  b : ∀ i, i < r.n → Lst (bgF p i) 0 (r.sb i)
  e : ∀ i, i < r.n → Lst (edF p (r.sb i)) (r.sb i + 1) (r.se i)
  c : Com p.own.c r.n r.com
  S1 : r.S ≤ 8600
  n2 : r.n ≤ 1000000
  b1 : ∀ i, i < r.n → r.sb i + 1 ≤ r.S
  e1 : ∀ i, i < r.n → r.se i ≤ r.sb i + 8000
  c1 : ∀ i, i < r.n → r.com i + 1 ≤ r.S
theorem ed_bound {p : Plc} (E : PlE p) (h : tooB p = false) (b T : Nat) (hT : T = 7000) : edF p b (b + 1 + T) ≤ ((b + 1 + T : Nat) : Int) := by
  obtain ⟨e, e0, e1, ev⟩ := E.fl.ev
  have hp := E.fl.ppos
  have s0 := E.fl.ok.s0
  have m0 := E.fl.ok.c.mn.m
  have hf := fl_load E h
  have u1 := ev (b + 1 + T)
  have l1 := E.lo (b + 1)
  have s10 := E.s1
  have k1 : (p.fl.c.p : Int) * (cvI p.fl.c (b + 1 + T) - cvI p.fl.c (b + 1)) ≤ e * p.fl.c.p + p.fl.c.m * (T + 40) := by
    have q1 : p.fl.c.m * ((b + 1 + T : Nat) : Int) = p.fl.c.m * (((b + 1 : Nat) : Int) - 40) + p.fl.c.m * (T + 40) := by rw [← Int.mul_add]; congr 1; omega
    rw [Int.mul_sub]
    omega
  have k2 : p.fl.s * ((p.fl.c.p : Int) * (cvI p.fl.c (b + 1 + T) - cvI p.fl.c (b + 1))) ≤ p.fl.s * (e * p.fl.c.p + p.fl.c.m * (T + 40)) := Int.mul_le_mul_of_nonneg_left k1 s0
  have k3 : p.fl.s * e * p.fl.c.p ≤ 120 * p.fl.c.p := Int.mul_le_mul_of_nonneg_right e1 (by omega)
  have k4 : p.fl.s * (e * p.fl.c.p + p.fl.c.m * ((T : Int) + 40)) = p.fl.s * e * p.fl.c.p + p.fl.s * p.fl.c.m * (T + 40) := by rw [Int.mul_add]; ac_rfl
  have k5 : 10 * (p.fl.s * p.fl.c.m) * ((T : Int) + 40) ≤ 9 * p.fl.c.p * (T + 40) := Int.mul_le_mul_of_nonneg_right hf (by omega)
  have k6 : p.fl.s * ((p.fl.c.p : Int) * (cvI p.fl.c (b + 1 + T) - cvI p.fl.c (b + 1))) = p.fl.c.p * (dd p (b + 1 + T) - dd p (b + 1)) := by unfold dd; rw [← Int.mul_sub]; ac_rfl
  have k7 : (p.fl.c.p : Int) * (10 * (dd p (b + 1 + T) - dd p (b + 1))) ≤ p.fl.c.p * (1200 + 9 * (T + 40)) := by
    have e2 : (p.fl.c.p : Int) * (10 * (dd p (b + 1 + T) - dd p (b + 1))) = 10 * (p.fl.c.p * (dd p (b + 1 + T) - dd p (b + 1))) := by ac_rfl
    have e3 : (p.fl.c.p : Int) * (1200 + 9 * ((T : Int) + 40)) = 10 * (120 * p.fl.c.p) + 9 * p.fl.c.p * (T + 40) := by
      rw [Int.mul_add]
      have : (p.fl.c.p : Int) * 1200 = 10 * (120 * p.fl.c.p) := by omega
      rw [this]; ac_rfl
    have e4 : 10 * (p.fl.s * p.fl.c.m) * ((T : Int) + 40) = 10 * (p.fl.s * p.fl.c.m * (T + 40)) := by ac_rfl
    rw [e2, e3, ← k6]
    omega
  have k8 := Int.le_of_mul_le_mul_left k7 hp
  unfold edF
  omega
theorem com_ex {c : Cv} (k : Kv c) {S : Nat} (n : Nat) (hn : (n : Int) = cvI c S) : ∃ com, Com c n com ∧ ∀ i, i < n → com i + 1 ≤ S := by
  have : ∀ i : Nat, ∃ t : Nat, i < n → ((i : Int) < cvI c (t + 1) ∧ (∀ s, s < t → cvI c (s + 1) ≤ i) ∧ t + 1 ≤ S) := fun i => by
    by_cases hi : i < n
    · have hS : 1 ≤ S := by
        rcases Nat.eq_zero_or_pos S with z | z
        · subst z; rw [k.z] at hn; omega
        · exact z
      obtain ⟨a, b, c0⟩ := upN_spec (P := fun t : Nat => decide ((i : Int) < cvI c (t + 1))) (S - 1) 0 (by
        rw [show 0 + (S - 1) + 1 = S by omega]
        exact decide_eq_true (by omega))
      refine ⟨_, fun _ => ⟨of_decide_eq_true b, fun s hs => ?_, ?_⟩⟩
      · have := of_decide_eq_false (c0 s (Nat.zero_le _) hs); omega
      · rcases Nat.lt_or_ge (S - 1) (upN (fun t : Nat => decide ((i : Int) < cvI c (t + 1))) (S - 1) 0) with q | q
        · have := of_decide_eq_false (c0 (S - 1) (Nat.zero_le _) q)
          rw [show S - 1 + 1 = S by omega] at this
          omega
        · omega
    · exact ⟨0, fun h => absurd h hi⟩
  refine ⟨fun i => Classical.choose (this i), ⟨fun i hi => (Classical.choose_spec (this i) hi).1, fun i t hi ht => (Classical.choose_spec (this i) hi).2.1 t ht⟩, fun i hi => (Classical.choose_spec (this i) hi).2.2⟩
theorem run_ex {p : Plc} (E : PlE p) (h : tooB p = false) : ∃ r, Run p r := by
  have hbl := E.bl
  have o := E.ok
  obtain ⟨S, L, hS⟩ := lst_ex (f := bsy p) (x := 1) (B := 8510) (by omega) (by have := bsy_bound E h 8510; omega)
  obtain ⟨n, hn⟩ : ∃ n : Nat, (n : Int) = cvI p.own.c S := ⟨(cvI p.own.c S).toNat, by have := o.own.c.nn S; omega⟩
  have n1 : 1 ≤ n := by
    have h1 := o.own.c.mn.mono 1 S L.ge
    have h2 := E.v1
    omega
  have n2 : n ≤ 1000000 := by
    have h1 : p.own.s * cvI p.own.c S ≤ bsy p S := by
      have h1 := dd_nn o S; have h2 := abl_nn o.hi S; have h4 := o.bl
      unfold bsy; omega
    have h2 : 1 * cvI p.own.c S ≤ p.own.s * cvI p.own.c S := Int.mul_le_mul_of_nonneg_right E.s1.1 (o.own.c.nn S)
    have h3 := L.fx
    omega
  have hb : ∀ i : Nat, ∃ b : Nat, i < n → Lst (bgF p i) 0 b ∧ b + 1 ≤ S := fun i => by
    by_cases hi : i < n
    · have hS1 := L.ge
      have k1 : bgF p i (S - 1) ≤ ((S - 1 : Nat) : Int) := by
        have q1 : (i : Int) * p.own.s + 1 ≤ p.own.s * cvI p.own.c S := by
          rw [← hn]
          have : ((i : Int) + 1) * p.own.s ≤ (n : Int) * p.own.s := Int.mul_le_mul_of_nonneg_right (by omega) o.own.s0
          rw [Int.add_mul, Int.one_mul] at this
          rw [Int.mul_comm p.own.s]
          have := E.s1.1
          omega
        have q2 := L.fx
        have q3 : bsy p S = p.bl + dd p S + p.own.s * cvI p.own.c S + abl p.hi S := rfl
        unfold bgF
        rw [show S - 1 + 1 = S by omega]
        omega
      obtain ⟨b, hb, hb2⟩ := lst_ex (Nat.zero_le _) k1
      exact ⟨b, fun _ => ⟨hb, by omega⟩⟩
    · exact ⟨0, fun h => absurd h hi⟩
  have he : ∀ b : Nat, ∃ e : Nat, Lst (edF p b) (b + 1) e ∧ e ≤ b + 1 + 7000 := fun b => lst_ex (by omega) (ed_bound E h b 7000 rfl)
  obtain ⟨com, hc, hc1⟩ := com_ex o.own.c n hn
  refine ⟨⟨S, n, fun i => Classical.choose (hb i), fun i => Classical.choose (he (Classical.choose (hb i))), com⟩, L, hn, n1, fun i hi => (Classical.choose_spec (hb i) hi).1, fun i hi => (Classical.choose_spec (he _)).1, hc, by show S ≤ 8600; omega, n2, fun i hi => (Classical.choose_spec (hb i) hi).2, fun i hi => ?_, hc1⟩
  have := (Classical.choose_spec (he (Classical.choose (hb i)))).2
  show Classical.choose (he (Classical.choose (hb i))) ≤ Classical.choose (hb i) + 8000
  omega
end Wc

namespace Wc
open PySem Wi Wp
def lplD (p : Plc) : D := .tuple [.int p.bl, .int p.own.s, cD p.own.c, .list (p.hi.map ptD), .int p.fl.s, cD p.fl.c]
@[simp] theorem lp_bl {p : Plc} : item (lplD p) (.int 0) = some (.int p.bl) := rfl
@[simp] theorem lp_s {p : Plc} : item (lplD p) (.int 1) = some (.int p.own.s) := rfl
@[simp] theorem lp_c {p : Plc} : item (lplD p) (.int 2) = some (cD p.own.c) := rfl
@[simp] theorem lp_hi {p : Plc} : item (lplD p) (.int 3) = some (.list (p.hi.map ptD)) := rfl
@[simp] theorem lp_st {p : Plc} : item (lplD p) (.int 4) = some (.int p.fl.s) := rfl
@[simp] theorem lp_fl {p : Plc} : item (lplD p) (.int 5) = some (cD p.fl.c) := rfl
@[simp] theorem cd_p {c : Cv} : item (cD c) (.int 1) = some (.int c.p) := rfl
@[simp] theorem cd_m {c : Cv} : item (cD c) (.int 2) = some (.int c.m) := rfl
section
variable {F : FE} {iv iw it ic isp ir ib ie : Nat} {p : Plc}
@[simp] theorem after_comD {com : Nat → Nat} {n : Nat} {l : List Nat} {env : En} : after (.l (comD com n)) l env = env := after_noL (noLs_mp (fun _ => rfl) _)
end
end Wc

namespace Wc
open PySem Wi Wp
structure Kc (c : Cv) (e : Int) : Prop where
  k : Kv c
  m1 : c.m ≤ 1000000
  e0 : 0 ≤ e
  cap : ∀ v ∈ c.vs, v ≤ e
theorem Kc.env {c : Cv} {e : Int} (h : Kc c e) (t : Nat) : (c.p : Int) * cvI c t ≤ e * c.p + c.m * t := by
  have m0 := h.k.mn.m
  have hp := h.k.mn.p
  induction t using Nat.strongRecOn with
  | ind t ih =>
    by_cases ht : t < c.vs.length
    · rw [cvI_lt ht]
      have h1 := h.cap _ (List.getElem_mem ht)
      have h2 : (c.p : Int) * c.vs[t] ≤ c.p * e := Int.mul_le_mul_of_nonneg_left h1 (by omega)
      have h3 := Int.mul_nonneg m0 (show (0 : Int) ≤ t by omega)
      rw [Int.mul_comm e]; omega
    · have hk := h.k.mn.ok.p
      rw [cvI_step h.k.mn.ok hp ht]
      have h1 := ih (t - c.p) (by omega)
      have h2 : c.m * (t : Int) = c.m * ((t - c.p : Nat) : Int) + c.p * c.m := by
        rw [Int.mul_comm (c.p : Int), ← Int.mul_add]; congr 1; omega
      rw [Int.mul_add]
      omega
theorem Kc.pt {c : Cv} {e s : Int} (h : Kc c e) (s0 : 0 ≤ s) (s1 : s ≤ 1000) (hs : s * e ≤ 120) : PtE ⟨s, c⟩ := ⟨⟨s0, s1, h.k⟩, h.m1, e, h.e0, hs, fun t => h.env t⟩
def shs (bs : List Int) : Nat → List Int
  | 0 => [0]
  | k + 1 => shs bs k ++ [mnI ((List.range (min bs.length (k + 1))).map fun s => bt bs s + bt (shs bs k) (k - s))]
def shF (bs : List Int) (t : Nat) : Int := bt (shs bs t) t
theorem shs_len (bs : List Int) : ∀ k, (shs bs k).length = k + 1
  | 0 => rfl
  | k + 1 => by unfold shs; rw [List.length_append, shs_len bs k]; rfl
theorem shs_bt (bs : List Int) : ∀ k j, j ≤ k → bt (shs bs k) j = shF bs j
  | 0, j, h => by rw [show j = 0 by omega]; rfl
  | k + 1, j, h => by
    by_cases q : j = k + 1
    · subst q; rfl
    · unfold shs
      rw [bt_app_lt (by rw [shs_len]; omega)]
      exact shs_bt bs k j (by omega)
theorem shF_s (bs : List Int) (k : Nat) : shF bs (k + 1) = mnI ((List.range (min bs.length (k + 1))).map fun s => bt bs s + shF bs (k - s)) := by
  have e : shF bs (k + 1) = bt (shs bs k ++ [mnI ((List.range (min bs.length (k + 1))).map fun s => bt bs s + bt (shs bs k) (k - s))]) (k + 1) := rfl
  rw [e]
  have hl := shs_len bs k
  rw [← hl, bt_app_eq, hl]
  congr 1
  apply List.map_congr_left
  intro s _
  rw [shs_bt bs k _ (by omega)]
/-- bounds that rise -/
structure Bd (bs : List Int) (k : Nat) : Prop where
  len : bs.length = k + 1
  lo : ∀ i, i ≤ k → 1 ≤ bt bs i ∧ bt bs i ≤ 2 + k
  mono : ∀ i, i < k → bt bs i ≤ bt bs (i + 1)
section
variable {bs : List Int} {k : Nat}
theorem Bd.sub (B : Bd bs k) {s t : Nat} (hs : s ≤ k) : shF bs (t + (s + 1)) ≤ bt bs s + shF bs t := by
  rw [← Nat.add_assoc, shF_s]
  refine mnI_le (List.mem_map.mpr ⟨s, List.mem_range.mpr (by rw [B.len]; omega), ?_⟩)
  rw [show t + s - s = t by omega]
theorem Bd.att (B : Bd bs k) (t : Nat) : ∃ s, s ≤ k ∧ s ≤ t ∧ shF bs (t + 1) = bt bs s + shF bs (t - s) := by
  have hm := mnI_mem ((List.range (min bs.length (t + 1))).map fun s => bt bs s + shF bs (t - s)) (fun z => by
    have := congrArg List.length z
    rw [List.length_map, List.length_range, B.len, List.length_nil] at this; omega)
  rw [← shF_s] at hm
  obtain ⟨s, h1, h2⟩ := List.mem_map.mp hm
  have := List.mem_range.mp h1
  rw [B.len] at this
  exact ⟨s, by omega, by omega, h2.symm⟩
theorem Bd.step (B : Bd bs k) : ∀ t, shF bs t ≤ shF bs (t + 1) := by
  intro t
  induction t using Nat.strongRecOn with
  | ind t ih =>
    obtain ⟨s, h1, h2, h3⟩ := B.att t
    have b1 := B.lo s h1
    rw [h3]
    by_cases q : s = t
    · subst q
      rw [Nat.sub_self]
      cases s with
      | zero => have : shF bs 0 = 0 := rfl
                omega
      | succ r =>
        have e1 := B.sub (s := r) (t := 0) (by omega)
        rw [Nat.zero_add] at e1
        have := B.mono r (by omega)
        omega
    · have e1 := B.sub (s := s) (t := t - 1 - s) h1
      rw [show t - 1 - s + (s + 1) = t by omega] at e1
      have e2 := ih (t - 1 - s) (by omega)
      rw [show t - 1 - s + 1 = t - s by omega] at e2
      omega
theorem Bd.one (B : Bd bs k) : shF bs 1 = bt bs 0 := by
  obtain ⟨s, h1, h2, h3⟩ := B.att 0
  have : s = 0 := by omega
  subst this
  have z : shF bs 0 = 0 := rfl
  rw [h3, Nat.sub_self, z, Int.add_zero]
end
end Wc

namespace Wc
open PySem Wi Wp
section
variable {F : FE} {bs : List Int} {k : Nat}
end
structure ClOk (q : Pt) : Prop where
  E : PtE q
  s : 1 ≤ q.s ∧ q.s ≤ 10
  v1 : 1 ≤ cvI q.c 1
theorem Kc.le {c : Cv} {e e' : Int} (h : Kc c e) (l : e ≤ e') : Kc c e' := ⟨h.k, h.m1, Int.le_trans h.e0 l, fun v hv => Int.le_trans (h.cap v hv) l⟩
/-- a class whose curve has values up to 12 -/
structure ClK (q : Pt) : Prop where
  cl : ClOk q
  k : Kc q.c 12
section
variable {F : FE} {ish itm iap icl : Nat} {row : List Int} {c : Nat → Int} {many : Nat}
/-- a bus's faults -/
structure FlOk (q : Pt) : Prop where
  E : PtE q
  s : 0 ≤ q.s ∧ q.s ≤ 10
  lo : ∀ t : Nat, q.c.m * ((t : Int) - 40) ≤ q.c.p * cvI q.c t
/-- faults whose curve has values up to 12 -/
structure FlK (q : Pt) : Prop where
  fl : FlOk q
  k : Kc q.c 12
end
end Wc

namespace Wc
open PySem Wi Wp
@[simp] theorem after_plc {p : Plc} {l : List Nat} {env : En} : after (.v (plcD p)) l env = demote env l := after_ins
def gq (qs : List Pt) (k : Nat) : Pt := qs[k]?.getD ⟨0, ⟨[], 0, 0⟩⟩
def isH (ab : List Nat) (k : Nat) : Bool := decide (k ∈ ab)
def isLw (kind : Nat) (ab : List Nat) (k : Nat) : Bool := !decide (k ∈ ab) && decide (k ≠ kind)
def lowL (qs : List Pt) (kind : Nat) (ab : List Nat) (n : Nat) : List Int := ((List.range n).filter (isLw kind ab)).map fun k => (gq qs k).s
def blL (qs : List Pt) (kind : Nat) (ab : List Nat) : Int := mxI (1 :: lowL qs kind ab qs.length) - 1
def plP (qs : List Pt) (fl : Pt) (kind : Nat) (ab : List Nat) : Plc := ⟨gq qs kind, ab.map (gq qs), blL qs kind ab, fl⟩
def aD (ab : List Nat) : List D := ab.map fun k => .int (k : Nat)
theorem aD_iD (ab : List Nat) : aD ab = iD (ab.map Int.ofNat) := by unfold aD iD; rw [List.map_map]; rfl
@[simp] theorem pt_s0 {q : Pt} : item (ptD q) (.int 0) = some (.int q.s) := rfl
@[simp] theorem pt_c1 {q : Pt} : item (ptD q) (.int 1) = some (cD q.c) := rfl
section
variable {F : FE} {qs : List Pt} {fl : Pt} {kind : Nat} {ab : List Nat}
theorem PlE.ms {p : Plc} (E : PlE p) : ∀ q ∈ p.hi ++ [p.own, p.fl], q.c.m ≤ 1000000 := fun q h => (E.all q h).m1
end
end Wc

namespace Wc
open PySem Wi Wp
/-- places that differ in the order of the classes above alone -/
structure Sim (p p' : Plc) : Prop where
  own : p'.own = p.own
  bl : p'.bl = p.bl
  fl : p'.fl = p.fl
  hi : p'.hi.Perm p.hi
theorem abl_perm {xs ys : List Pt} (h : xs.Perm ys) (t : Nat) : abl xs t = abl ys t := by
  unfold abl
  induction h with
  | nil => rfl
  | cons x _ ih => rw [List.map_cons, List.map_cons, List.sum_cons, List.sum_cons, ih]
  | swap x y l => simp only [List.map_cons, List.sum_cons]; omega
  | trans _ _ a b => rw [a, b]
theorem ld1_comm (z : Int × Int) (q r : Pt) : ld1 (ld1 z q) r = ld1 (ld1 z r) q := by
  obtain ⟨o, u⟩ := z
  show ((o * q.c.p + q.s * q.c.m * u) * r.c.p + r.s * r.c.m * (u * q.c.p), u * q.c.p * r.c.p) = ((o * r.c.p + r.s * r.c.m * u) * q.c.p + q.s * q.c.m * (u * r.c.p), u * r.c.p * q.c.p)
  congr 1
  · rw [Int.add_mul, Int.add_mul, Int.add_assoc, Int.add_assoc]
    congr 1
    · ac_rfl
    · rw [Int.add_comm]; congr 1 <;> ac_rfl
  · ac_rfl
theorem ld_perm {xs ys : List Pt} (h : xs.Perm ys) : ∀ z, xs.foldl ld1 z = ys.foldl ld1 z := by
  induction h with
  | nil => intro z; rfl
  | cons x _ ih => intro z; exact ih _
  | swap x y l => intro z; show l.foldl ld1 (ld1 (ld1 z y) x) = l.foldl ld1 (ld1 (ld1 z x) y); rw [ld1_comm]
  | trans _ _ a b => intro z; rw [a, b]
section
variable {p p' : Plc}
theorem Sim.ab (s : Sim p p') (t : Nat) : abl p'.hi t = abl p.hi t := abl_perm s.hi t
theorem Sim.dd (s : Sim p p') (t : Nat) : dd p' t = dd p t := by unfold Wc.dd; rw [s.fl]
theorem Sim.bsy (s : Sim p p') : bsy p' = bsy p := by funext t; unfold Wc.bsy; rw [s.bl, s.dd, s.own, s.ab]
theorem Sim.bgF (s : Sim p p') (i : Nat) : bgF p' i = bgF p i := by funext t; unfold Wc.bgF; rw [s.bl, s.own, s.ab, s.dd]
theorem Sim.edF (s : Sim p p') (b : Nat) : edF p' b = edF p b := by funext t; unfold Wc.edF; rw [s.own, s.dd, s.dd]
theorem Sim.too (s : Sim p p') : tooB p' = tooB p := by
  unfold tooB ldF
  rw [s.own, s.fl, ld_perm (s.hi.append_right _)]
theorem Sim.run (s : Sim p p') {r : Rn} (R : Run p r) : Run p' r := by
  refine ⟨?_, ?_, R.n1, ?_, ?_, ?_, R.S1, R.n2, R.b1, R.e1, R.c1⟩
  · rw [s.bsy]; exact R.L
  · rw [s.own]; exact R.n
  · intro i hi; rw [s.bgF]; exact R.b i hi
  · intro i hi; rw [s.edF]; exact R.e i hi
  · rw [s.own]; exact R.c
theorem Sim.E (s : Sim p p') (E : PlE p) : PlE p' := by
  refine ⟨by rw [s.own]; exact E.own, fun q hq => E.hi q (s.hi.mem_iff.mp hq), by rw [s.fl]; exact E.fl, by rw [s.hi.length_eq]; exact E.hl, by rw [s.bl]; exact E.bl, by rw [s.own]; exact E.s1, by rw [s.own]; exact E.v1, by rw [s.fl]; exact E.fs, by rw [s.fl]; exact E.lo⟩
theorem Sim.refl (p : Plc) : Sim p p := ⟨rfl, rfl, rfl, .refl _⟩
end
theorem flt_perm {n : Nat} {ab : List Nat} (hn : ab.Nodup) (hab : ∀ k ∈ ab, k < n) : ((List.range n).filter (isH ab)).Perm ab := by
  refine (List.perm_ext_iff_of_nodup ?_ hn).mpr fun k => ?_
  · exact List.Pairwise.filter _ List.nodup_range
  · rw [List.mem_filter, List.mem_range]
    unfold isH
    exact ⟨fun h => of_decide_eq_true h.2, fun h => ⟨hab k h, decide_eq_true h⟩⟩
theorem ab_len {n kind : Nat} {ab : List Nat} (hn : ab.Nodup) (hab : ∀ k ∈ ab, k < n ∧ k ≠ kind) (hk : kind < n) : ab.length + 1 ≤ n := by
  rw [← (flt_perm hn fun k h => (hab k h).1).length_eq]
  have := (List.length_filter_lt_length_iff_exists (p := isH ab) (l := List.range n)).mpr ⟨kind, List.mem_range.mpr hk, by
    unfold isH
    intro h
    exact (hab kind (of_decide_eq_true h)).2 rfl⟩
  rw [List.length_range] at this
  omega
@[simp] theorem after_ptT {qs : List Pt} {l : List Nat} {env : En} : after (.v (.tuple (qs.map ptD))) l env = env := after_noL (show noL (.tuple (qs.map ptD)) = true from noLs_mp noL_pt qs)
@[simp] theorem after_ptv {q : Pt} {l : List Nat} {env : En} : after (.v (ptD q)) l env = env := after_noL (noL_pt q)
@[simp] theorem after_aD {ab : List Nat} {l : List Nat} {env : En} : after (.l (aD ab)) l env = env := after_noL (noLs_mp (fun _ => rfl) ab)
end Wc

namespace Wc
open PySem Wi Wp
section
variable {F : FE} {qs : List Pt} {fl : Pt} {isp : Nat}
end
open Classical in
noncomputable def ageO (p : Plc) : Option Int := if h : PlE p ∧ tooB p = false then some (grI (choose (run_ex h.1 h.2)).se (choose (run_ex h.1 h.2)).com (choose (run_ex h.1 h.2)).n) else none
theorem age_no {p : Plc} (h : tooB p = true) : ageO p = none := by
  unfold ageO
  rw [dif_neg]
  rintro ⟨_, h2⟩
  rw [h] at h2; cases h2
theorem age_run {p : Plc} (E : PlE p) (h : tooB p = false) : ∃ r, Run p r ∧ ageO p = some (grI r.se r.com r.n) := by
  refine ⟨_, Classical.choose_spec (run_ex E h), ?_⟩
  unfold ageO
  rw [dif_pos ⟨E, h⟩]
/-- what program and law say of a place -/
structure Says (F : FE) (it ig il : Nat) : Prop where
  too : ∀ p, PlE p → F it [plcD p] = some (.v (.bool (tooB p)))
  gr : ∀ p g, PlE p → ageO p = some g → F ig [plcD p] = some (.v (.int g))
  law : ∀ p p', PlE p → Sim p p' → F il [lplD p'] = some (.v (oD (ageO p)))
def og (od : List Nat) (x : Nat) : Nat := od[x]?.getD 0
structure Od (od : List Nat) (m : Nat) : Prop where
  len : od.length = m
  nd : od.Nodup
  lt : ∀ k ∈ od, k < m
theorem Od.get {od : List Nat} {m x : Nat} (O : Od od m) (h : x < m) : og od x < m := by
  have := O.len
  unfold og; rw [List.getElem?_eq_getElem (by omega)]
  exact O.lt _ (List.getElem_mem (by omega))
theorem Od.inj {od : List Nat} {m x y : Nat} (O : Od od m) (hx : x < m) (hy : y < m) (h : og od x = og od y) : x = y := by
  have hl := O.len
  unfold og at h
  rw [List.getElem?_eq_getElem (show x < od.length by omega), List.getElem?_eq_getElem (show y < od.length by omega)] at h
  have h : od[x]'(by omega) = od[y]'(by omega) := h
  have hp := List.pairwise_iff_getElem.mp O.nd
  rcases Nat.lt_trichotomy x y with q | q | q
  · exact absurd h (hp x y (by omega) (by omega) q)
  · exact q
  · exact absurd h.symm (hp y x (by omega) (by omega) q)
theorem aD_take (od : List Nat) (x : Nat) : (aD od).take x = aD (od.take x) := by unfold aD; rw [List.map_take]
end Wc

namespace Wc
open PySem Wi Wp
@[simp] theorem after_aDt {ab : List Nat} {l : List Nat} {env : En} : after (.v (.tuple (aD ab))) l env = env := after_noL (show noL (.tuple (aD ab)) = true from noLs_mp (fun _ => rfl) ab)
section
variable {F : FE} {ik iap : Nat} {od : List Nat} {m : Nat}
variable {row : List Int} {c : Nat → Int} {many : Nat}
end
end Wc

namespace Wc
open PySem Wi Wp
/-- a closed curve of at most 60 values -/
structure CcB (c : Cv) : Prop where
  ok : c.Ok
  p0 : c.p ≠ 0
  p8 : c.p ≤ 8
  l2 : 2 ≤ c.vs.length
  len : c.vs.length ≤ 60
  b : ∀ x ∈ c.vs, 0 ≤ x ∧ x ≤ 720
  m : 0 ≤ c.m ∧ c.m ≤ 96
  sub : ∀ s t, cvI c (s + t) ≤ cvI c s + cvI c t
  z : cvI c 0 = 0
  E : ∀ t : Nat, cvI c t * (c.p : Int) - c.m * t ≤ 1152
theorem CcB.cl {c : Cv} (s : CcB c) : IsCl (cv c) (cvI c) := by
  refine ⟨s.z, fun t u v h1 h2 e => ?_, fun t h1 => ⟨t, cvI c t, h1, Nat.le_refl _, cv_int s.ok s.p0 t, by rw [Nat.sub_self, s.z]; omega⟩⟩
  rw [cv_int s.ok s.p0] at e
  cases e
  have := s.sub u (t - u)
  rw [show u + (t - u) = t by omega] at this
  exact this
end Wc

namespace Wc
open PySem Wi Wp
section
variable {f g : Cv}
end
end Wc

namespace Wc
open PySem Wi Wp
def joined (c_least_form c_spread c_is_faster c_rows_of c_head_of c_shared_lap c_least_of : Nat) : Df := ⟨6, [.ite (.cmp .eq (.ix (.var 0) (.lit (.int 1))) (.lit (.int 0))) [.ret (.call c_least_form [(.call c_spread [(.ix (.var 0) (.lit (.int 0))), (.var 1)])])] [], .ite (.cmp .eq (.ix (.var 1) (.lit (.int 1))) (.lit (.int 0))) [.ret (.call c_least_form [(.call c_spread [(.ix (.var 1) (.lit (.int 0))), (.var 0)])])] [], .unp [(.n 2), (.n 3)] (.ife (.call c_is_faster [(.var 0), (.var 1)]) (.tup [(.var 1), (.var 0)]) (.tup [(.var 0), (.var 1)])), .asg 4 (.call c_spread [(.call c_rows_of [(.var 3), (.bin .add (.call c_head_of [(.var 3)]) (.call c_shared_lap [(.var 0), (.var 1)]))]), (.var 2)]), .asg 5 (.call c_spread [(.call c_rows_of [(.var 2), (.bi .mx [(.lit (.int 1)), (.call c_head_of [(.var 2)])])]), (.var 3)]), .ret (.call c_least_of [(.var 4), (.var 5)])]⟩
def gI (xs : List Int) (s : Nat) : Int := xs.getD s 0
section
variable {F : FE} {iw : Nat} {ps : List Int} {d : D} {c : Cv}
end
end Wc

namespace Wc
open PySem Wi Wp
end Wc

namespace Wc
open PySem Wi Wp
/-- R: the least sum of a value of F and one of G -/
structure Cnv (F G R : Nat → Option Int) : Prop where
  up : ∀ i j x y, F i = some x → G j = some y → ∃ m, R (i + j) = some m ∧ m ≤ x + y
  at_ : ∀ t m, R t = some m → ∃ i j x y, i + j = t ∧ F i = some x ∧ G j = some y ∧ x + y = m
section
variable {F G H A B R R' : Nat → Option Int}
theorem Cnv.uniq (h : Cnv F G R) (h' : Cnv F G R') (t : Nat) : R t = R' t := by
  have key : ∀ {R R' : Nat → Option Int}, Cnv F G R → Cnv F G R' → ∀ m, R t = some m → ∃ m', R' t = some m' ∧ m' ≤ m := fun {R R'} h h' m e => by
    obtain ⟨i, j, x, y, rfl, e1, e2, rfl⟩ := h.at_ t m e
    exact h'.up i j x y e1 e2
  cases e : R t with
  | none =>
    cases e' : R' t with
    | none => rfl
    | some m' =>
      obtain ⟨m, q, _⟩ := key h' h m' e'
      rw [e] at q; cases q
  | some m =>
    obtain ⟨m', q, hm⟩ := key h h' m e
    obtain ⟨m2, q2, hm2⟩ := key h' h m' q
    rw [e] at q2
    cases q2
    rw [q]
    congr 1
    omega
theorem Cnv.comm (h : Cnv F G R) : Cnv G F R where
  up := fun i j x y e1 e2 => by
    obtain ⟨m, q, hm⟩ := h.up j i y x e2 e1
    exact ⟨m, by rw [Nat.add_comm]; exact q, by omega⟩
  at_ := fun t m e => by
    obtain ⟨i, j, x, y, e0, e1, e2, e3⟩ := h.at_ t m e
    exact ⟨j, i, y, x, by omega, e2, e1, by omega⟩
theorem mnO_some {a b : Option Int} {m : Int} (h : mnO a b = some m) : (a = some m ∨ b = some m) ∧ (∀ x, a = some x → m ≤ x) ∧ ∀ y, b = some y → m ≤ y := by
  cases a with
  | none => cases b with
    | none => cases h
    | some y => cases h; exact ⟨.inr rfl, (fun x e => by cases e), (fun z e => by cases e; exact Int.le_refl _)⟩
  | some x => cases b with
    | none => cases h; exact ⟨.inl rfl, (fun z e => by cases e; exact Int.le_refl _), (fun y e => by cases e)⟩
    | some y =>
      have h : some (min x y) = some m := h
      cases h
      refine ⟨?_, (fun z e => by cases e; exact Int.min_le_left _ _), (fun z e => by cases e; exact Int.min_le_right _ _)⟩
      rcases Int.le_total x y with q | q
      · exact .inl (by rw [Int.min_eq_left q])
      · exact .inr (by rw [Int.min_eq_right q])
theorem mnO_le1 {a b : Option Int} {x : Int} (h : a = some x) : ∃ m, mnO a b = some m ∧ m ≤ x := by
  subst h
  cases b with
  | none => exact ⟨x, rfl, Int.le_refl _⟩
  | some y => exact ⟨min x y, rfl, Int.min_le_left _ _⟩
theorem mnO_le2 {a b : Option Int} {x : Int} (h : b = some x) : ∃ m, mnO a b = some m ∧ m ≤ x := by rw [mnO_comm]; exact mnO_le1 h
/-- the lesser one of two, joined -/
theorem Cnv.mn (h1 : Cnv F G A) (h2 : Cnv F H B) : Cnv F (fun t => mnO (G t) (H t)) fun t => mnO (A t) (B t) where
  up := fun i j x y e1 e2 => by
    rcases (mnO_some e2).1 with q | q
    · obtain ⟨m, q1, hm⟩ := h1.up i j x y e1 q
      obtain ⟨m2, q2, hm2⟩ := mnO_le1 (b := B (i + j)) q1
      exact ⟨m2, q2, by omega⟩
    · obtain ⟨m, q1, hm⟩ := h2.up i j x y e1 q
      obtain ⟨m2, q2, hm2⟩ := mnO_le2 (a := A (i + j)) q1
      exact ⟨m2, q2, by omega⟩
  at_ := fun t m e => by
    obtain ⟨q, la, lb⟩ := mnO_some e
    rcases q with q | q
    · obtain ⟨i, j, x, y, rfl, e1, e2, rfl⟩ := h1.at_ t m q
      obtain ⟨z, ez, hz⟩ := mnO_le1 (b := H j) e2
      refine ⟨i, j, x, z, rfl, e1, ez, ?_⟩
      rcases (mnO_some ez).1 with w | w
      · rw [w] at e2; cases e2; rfl
      · obtain ⟨b, q2, hb⟩ := h2.up i j x z e1 w
        have := lb b q2
        omega
    · obtain ⟨i, j, x, y, rfl, e1, e2, rfl⟩ := h2.at_ t m q
      obtain ⟨z, ez, hz⟩ := mnO_le2 (a := G j) e2
      refine ⟨i, j, x, z, rfl, e1, ez, ?_⟩
      rcases (mnO_some ez).1 with w | w
      · obtain ⟨b, q2, hb⟩ := h1.up i j x z e1 w
        have := la b q2
        omega
      · rw [w] at e2; cases e2; rfl
end
section
variable {ps : List Int} {c : Cv}
theorem cv_z (hz : c.p = 0) (t : Nat) : cv c t = nth c.vs t := by
  by_cases h : t < c.vs.length
  · unfold cv; rw [if_pos h]
  · rw [cv_none h hz]
    unfold nth
    rw [List.getElem?_eq_none (by omega)]
end
end Wc

namespace Wc
open PySem Wi Wp
/-- a curve to be joined -/
structure Jc (c : Cv) : Prop where
  ok : c.Ok
  z : c.p = 0 → c.m = 0
  zero : cv c 0 = some 0
  nn : ∀ t x, cv c t = some x → 0 ≤ x
  mono : ∀ t x y, cv c t = some x → cv c (t + 1) = some y → x ≤ y
  m : 0 ≤ c.m ∧ c.m ≤ 12 * c.p
theorem cv_prev {c : Cv} (ok : c.Ok) {t : Nat} {y : Int} (h : cv c (t + 1) = some y) : ∃ x, cv c t = some x := by
  cases e : cv c t with
  | some x => exact ⟨x, rfl⟩
  | none => rw [cv_none_up ok e (Nat.le_succ t)] at h; cases h
theorem Cnv.jc {f g c : Cv} (jf : Jc f) (jg : Jc g) (h : Cnv (cv f) (cv g) (cv c)) (ok : c.Ok) (z : c.p = 0 → c.m = 0) (hm : 0 ≤ c.m ∧ c.m ≤ 12 * c.p) : Jc c := by
  refine ⟨ok, z, ?_, fun t x e => ?_, fun t x y e1 e2 => ?_, hm⟩
  · obtain ⟨m, e, _⟩ := h.up 0 0 0 0 jf.zero jg.zero
    obtain ⟨i, j, x, y, e0, e1, e2, e3⟩ := h.at_ 0 m e
    have hi : i = 0 := by omega
    have hj : j = 0 := by omega
    subst hi hj
    rw [jf.zero] at e1
    rw [jg.zero] at e2
    cases e1; cases e2
    rw [show (0 : Nat) + 0 = 0 from rfl] at e
    rw [e, ← e3]; rfl
  · obtain ⟨i, j, a, b, e0, e1, e2, e3⟩ := h.at_ t x e
    have := jf.nn i a e1
    have := jg.nn j b e2
    omega
  · obtain ⟨i, j, a, b, e0, f1, f2, e3⟩ := h.at_ (t + 1) y e2
    cases i with
    | succ i =>
      obtain ⟨a', g1⟩ := cv_prev jf.ok f1
      have := jf.mono i _ _ g1 f1
      obtain ⟨m, q, hm⟩ := h.up i j a' b g1 f2
      rw [show i + j = t by omega, e1] at q
      cases q
      omega
    | zero =>
      cases j with
      | zero => omega
      | succ j =>
        obtain ⟨b', g1⟩ := cv_prev jg.ok f2
        have := jg.mono j _ _ g1 f2
        obtain ⟨m, q, hm⟩ := h.up 0 j a b' f1 g1
        rw [show 0 + j = t by omega, e1] at q
        cases q
        omega
/-- two curves of one rate -/
def Rate (c s : Cv) : Prop := c.m * s.p = s.m * c.p
end Wc

namespace Wc
open PySem Wi Wp
/-- what joined gives -/
structure Jnd (f g c : Cv) (M : Nat) : Prop where
  jc : Jc c
  cnv : Cnv (cv f) (cv g) (cv c)
  lst : lst c = c
  pz : c.p = 0 ↔ f.p = 0 ∧ g.p = 0
  len : c.vs.length ≤ M
  pm : c.p ≤ max (max f.p g.p) (Nat.lcm f.p g.p)
  ra : f.p = 0 → g.p ≠ 0 → Rate c g
  rb : f.p ≠ 0 → g.p = 0 → Rate c f
  rc : f.p ≠ 0 → g.p ≠ 0 → fasB f g = true → Rate c g
  rd : f.p ≠ 0 → g.p ≠ 0 → fasB f g = false → Rate c f
end Wc

namespace Wc
open PySem Wi Wp
@[simp] theorem chnB_lE {i j k : Int} : chnB .le .le (some (.v (.int i))) (some (.v (.int j))) (some (.v (.int k))) = some (decide (i ≤ j ∧ j ≤ k)) := by
  rw [chnB_s (k := decide (i ≤ j)) rfl]
  by_cases h : i ≤ j
  · rw [decide_eq_true h]
    show some (decide (j ≤ k)) = _
    congr 1
    simp [h]
  · rw [decide_eq_false h]
    show some false = _
    congr 1
    simp [h]
/-- what a curve of two is told by -/
theorem Sml.jc {c : Cv} (s : Sml c) : Jc c := by
  have ok := s.ok
  have h0 := List.length_pos_iff.mpr ok.ne
  refine ⟨ok, s.z, ?_, fun t x e => ?_, fun t x y e1 e2 => ?_, ?_⟩
  · have := s.up.z
    rw [nth_some h0] at this
    rw [cv_lt h0]
    exact this
  · by_cases hp : c.p = 0
    · rw [cv_z hp] at e
      exact (s.up.b x (nth_mem e)).1
    · have := (Las.of_sml s hp).nn t
      rw [cv_int ok hp] at e
      cases e
      exact this
  · by_cases hp : c.p = 0
    · rw [cv_z hp] at e1 e2
      have l1 := nth_lt e1
      have l2 := nth_lt e2
      rw [nth_some l1] at e1
      rw [nth_some l2] at e2
      cases e1; cases e2
      exact s.up.le (Nat.le_succ t) l2
    · rw [cv_int ok hp] at e1 e2
      cases e1; cases e2
      exact (Las.of_sml s hp).step t
  · have := s.m
    by_cases hp : c.p = 0
    · rw [s.z hp, hp]; decide
    · omega
end Wc

namespace Wc
open PySem Wi Wp
/-- two least forms of one curve -/
theorem jc_uniq {a b : Cv} (oka : a.Ok) (okb : b.Ok) (za : a.p = 0 → a.m = 0) (zb : b.p = 0 → b.m = 0) (la : lst a = a) (lb : lst b = b) (hp : a.p = 0 ↔ b.p = 0) (h : ∀ t, cv a t = cv b t) : a = b := by
  by_cases z : a.p = 0
  · have z2 := hp.mp z
    have e : a.vs = b.vs := by
      apply List.ext_getElem?
      intro t
      have := h t
      rw [cv_z z, cv_z z2] at this
      exact this
    have e2 := za z
    have e3 := zb z2
    cases a; cases b
    simp only at z z2 e e2 e3
    rw [e, z, z2, e2, e3]
  · have z2 : b.p ≠ 0 := fun q => z (hp.mpr q)
    rw [← la, ← lb]
    exact lst_eq oka okb z z2 fun t => by unfold cvI; rw [h t]
theorem Jnd.swap {f g c d : Cv} {M N : Nat} (h : Jnd f g c M) (h' : Jnd g f d N) : d = c :=
  jc_uniq h'.jc.ok h.jc.ok h'.jc.z h.jc.z h'.lst h.lst (by rw [h.pz, h'.pz]; exact And.comm) fun t => h'.cnv.comm.uniq h.cnv t
end Wc

namespace Wc
open PySem Wi Wp
/-- about a line of rise a / b: at most 12 above it, above it V beats later -/
structure LnV (c : Cv) (a b : Int) (V : Nat) : Prop where
  b0 : 0 < b
  a0 : 0 ≤ a
  ab : a ≤ 12 * b
  r : c.m * b = a * c.p
  up : ∀ t : Nat, b * cvI c t ≤ 12 * b + a * t
  lo : ∀ t : Nat, a * ((t : Int) - V) ≤ b * cvI c t
/-- a curve to be joined, with its sizes -/
structure Jv (c : Cv) (N P V : Nat) : Prop where
  jc : Jc c
  len : c.vs.length ≤ N
  p : c.p ≤ P
  ln : c.p ≠ 0 → ∃ a b, LnV c a b V
  v : c.p = 0 → c.vs.length ≤ V + 1
theorem LnV.mono {c : Cv} {a b : Int} {V W : Nat} (l : LnV c a b V) (h : V ≤ W) : LnV c a b W := ⟨l.b0, l.a0, l.ab, l.r, l.up, fun t => by
  have h1 := l.lo t
  have h2 : a * ((t : Int) - W) ≤ a * ((t : Int) - V) := Int.mul_le_mul_of_nonneg_left (by omega) l.a0
  omega⟩
theorem Jv.mono {c : Cv} {N P V N' P' V' : Nat} (h : Jv c N P V) (h1 : N ≤ N') (h2 : P ≤ P') (h3 : V ≤ V') : Jv c N' P' V' := ⟨h.jc, by have := h.len; omega, by have := h.p; omega, fun q => let ⟨a, b, l⟩ := h.ln q; ⟨a, b, l.mono h3⟩, fun q => by have := h.v q; omega⟩
end Wc

namespace Wc
open PySem Wi Wp
/-- what least_of gives -/
structure Lsr (f g c : Cv) : Prop where
  val : ∀ t, cv c t = mnO (cv f t) (cv g t)
  ok : c.Ok
  lf : lst c = c
  pz : c.p = 0 ↔ f.p = 0 ∧ g.p = 0
  z : c.p = 0 → c.m = 0
section
variable {F F2 : FE} {ih ia it il iw ii is ilp ir iw2 : Nat} {f g : Cv} {N P V N' P' V' M : Nat}
end
end Wc

namespace Wc
open PySem Wi Wp
end Wc

namespace Wc
open PySem Wi Wp
end Wc

namespace Wc
open PySem Wi Wp
/-- G is f closed, told by splits -/
structure Gr (f G : Nat → Option Int) : Prop where
  z : G 0 = some 0
  le : ∀ t v, 1 ≤ t → f t = some v → ∃ y, G t = some y ∧ y ≤ v
  sub : ∀ s u x y, G s = some x → G u = some y → ∃ w, G (s + u) = some w ∧ w ≤ x + y
  at_ : ∀ t y, 1 ≤ t → G t = some y → f t = some y ∨ ∃ s u x x', 1 ≤ s ∧ s ≤ u ∧ s + u = t ∧ G s = some x ∧ G u = some x' ∧ y = x + x'
theorem Gr.below {f g R A : Nat → Option Int} (hA : Gr f A) (hR : Gr (fun t => mnO (f t) (g t)) R) (t : Nat) : ∀ x, A t = some x → ∃ y, R t = some y ∧ y ≤ x := by
  induction t using Nat.strongRecOn with
  | ind t ih =>
    intro x e
    rcases Nat.eq_zero_or_pos t with q | q
    · subst q
      rw [hA.z] at e; cases e
      exact ⟨0, hR.z, Int.le_refl _⟩
    · rcases hA.at_ t x q e with h | ⟨s, u, a, b, s1, s2, rfl, e1, e2, rfl⟩
      · obtain ⟨m, e3, h3⟩ := mnO_le1 (b := g t) h
        obtain ⟨y, e4, h4⟩ := hR.le t m q e3
        exact ⟨y, e4, by omega⟩
      · obtain ⟨y1, d1, l1⟩ := ih s (by omega) a e1
        obtain ⟨y2, d2, l2⟩ := ih u (by omega) b e2
        obtain ⟨w, d3, l3⟩ := hR.sub s u y1 y2 d1 d2
        exact ⟨w, d3, by omega⟩
theorem Gr.comm {f g R : Nat → Option Int} (h : Gr (fun t => mnO (f t) (g t)) R) : Gr (fun t => mnO (g t) (f t)) R := by
  have : (fun t => mnO (g t) (f t)) = fun t => mnO (f t) (g t) := funext fun t => mnO_comm _ _
  rw [this]; exact h
theorem Gr.cnv {f g A B R : Nat → Option Int} (hA : Gr f A) (hB : Gr g B) (hR : Gr (fun t => mnO (f t) (g t)) R) : Cnv A B R where
  up := fun i j x y e1 e2 => by
    obtain ⟨p, d1, l1⟩ := hA.below hR i x e1
    obtain ⟨q, d2, l2⟩ := hB.below hR.comm j y e2
    obtain ⟨w, d3, l3⟩ := hR.sub i j p q d1 d2
    exact ⟨w, d3, by omega⟩
  at_ := fun t => by
    have up : ∀ i j x y, A i = some x → B j = some y → ∃ m, R (i + j) = some m ∧ m ≤ x + y := fun i j x y e1 e2 => by
      obtain ⟨p, d1, l1⟩ := hA.below hR i x e1
      obtain ⟨q, d2, l2⟩ := hB.below hR.comm j y e2
      obtain ⟨w, d3, l3⟩ := hR.sub i j p q d1 d2
      exact ⟨w, d3, by omega⟩
    induction t using Nat.strongRecOn with
    | ind t ih =>
      intro m e
      rcases Nat.eq_zero_or_pos t with q | q
      · subst q
        rw [hR.z] at e; cases e
        exact ⟨0, 0, 0, 0, rfl, hA.z, hB.z, rfl⟩
      · rcases hR.at_ t m q e with h | ⟨s, u, a, b, s1, s2, rfl, e1, e2, rfl⟩
        · rcases (mnO_some h).1 with h | h
          · obtain ⟨y, d1, l1⟩ := hA.le t m q h
            obtain ⟨w, d2, l2⟩ := up t 0 y 0 d1 hB.z
            rw [Nat.add_zero, e] at d2
            cases d2
            exact ⟨t, 0, y, 0, Nat.add_zero t, d1, hB.z, by omega⟩
          · obtain ⟨y, d1, l1⟩ := hB.le t m q h
            obtain ⟨w, d2, l2⟩ := up 0 t 0 y hA.z d1
            rw [Nat.zero_add, e] at d2
            cases d2
            exact ⟨0, t, 0, y, Nat.zero_add t, hA.z, d1, by omega⟩
        · obtain ⟨i1, j1, x1, y1, q1, a1, b1, c1⟩ := ih s (by omega) a e1
          obtain ⟨i2, j2, x2, y2, q2, a2, b2, c2⟩ := ih u (by omega) b e2
          obtain ⟨x, a3, l3⟩ := hA.sub i1 i2 x1 x2 a1 a2
          obtain ⟨y, b3, l4⟩ := hB.sub j1 j2 y1 y2 b1 b2
          obtain ⟨w, d2, l2⟩ := up _ _ x y a3 b3
          rw [show i1 + i2 + (j1 + j2) = s + u by omega, e] at d2
          cases d2
          exact ⟨i1 + i2, j1 + j2, x, y, by omega, a3, b3, by omega⟩
theorem IsCl.gr {f : Fo} {G : Nat → Int} (C : IsCl f G) (hs : ∀ s t, G (s + t) ≤ G s + G t) : Gr f fun t => some (G t) where
  z := by rw [C.z]
  le := fun t v h e => ⟨_, rfl, by have := C.le t t v h (Nat.le_refl _) e; rw [Nat.sub_self, C.z] at this; omega⟩
  sub := fun s u x y e1 e2 => ⟨_, rfl, by cases e1; cases e2; exact hs s u⟩
  at_ := fun t y h e => by
    cases e
    obtain ⟨s, v, s1, s2, e1, e2⟩ := C.ex t h
    rcases Nat.lt_or_ge s t with q | q
    · right
      have h1 := C.le s s v s1 (Nat.le_refl _) e1
      rw [Nat.sub_self, C.z] at h1
      have h2 := hs s (t - s)
      rw [Nat.add_sub_cancel' s2] at h2
      rcases Nat.le_total s (t - s) with z | z
      · exact ⟨s, t - s, _, _, s1, z, by omega, rfl, rfl, by omega⟩
      · exact ⟨t - s, s, _, _, by omega, z, by omega, rfl, rfl, by omega⟩
    · left
      have : s = t := by omega
      subst this
      rw [e1, e2, Nat.sub_self, C.z]; simp
end Wc

namespace Wc
open PySem Wi Wp
/-- two curves of one shape -/
structure Sh (f g : Cv) : Prop where
  l : f.vs.length = g.vs.length
  p : f.p = g.p
  m : f.m = g.m
end Wc

namespace Wi
open PySem PySem.Spec PyProof.Rows L2

/-- an exception class of the module -/
structure ExO (K : PySem.W.Frag) (mg : Str → Option Value) (C : Addr) (k : Str) : Prop where
  g : mg k = some (.ref C)
  x : PySem.W.excIn K C [.type "ValueError", .type "Exception", .type "BaseException", .type "object"] "ValueError.__new__" = true
  kp : PySem.W.keepIn K (.ref C) = true
  b : PySem.W.subIn K (.ref C) (.type "BaseException") = some true
  t : PySem.W.typeIn K (.ref C) = some (.type "type")
  e : PySem.W.exmOne K (.ref C) (.ref C) = some true
  c : ExcC K C
/-- what a def that may raise promises: f what it gives, z the name of the class that it raises -/
def spZ (K : PySem.W.Frag) (mg : Str → Option Value) (n : Nat) (f z : List D → Option RV) : Sp := fun vs H Q E => ∃ O ds, (∀ a, O a → ∃ xs, H a = some (.lst xs)) ∧ Reps K O H vs ds ∧ ds.length = n ∧
  ((∃ r, f ds = some r ∧ ∀ v H', Same H H' → RR K O H H' v r → Q v H') ∨ ∃ k, z ds = some (.v (.str k)) ∧ ∀ C H', mg k = some (.ref C) → Same H H' → E (.ref C) none H')
section
variable {X : Cx} {es : List Expr} {t : TA} {st : Stmt} {u : TS}
end
section
variable {X : Cx} {e a : Expr} {es : List Expr} {pos : Pos} {Y : XK}
end

/-- defs that may raise (their number, the number of the second def, how many parameters), methods (class first), classes of exceptions, and what isinstance denies -/
structure ZT where
  fz : List (Str × Nat × Nat × Nat)
  mz : List (Str × Str × Nat × Nat × Nat)
  xc : List Str
  is : List (Str × Str)
structure ZOk (X : Cx) (F : FE) (z : ZT) : Prop where
  fns : ∀ x j sh n, z.fz.lookup x = some (j, sh, n) → ∃ f fd ps k, FnOk X.prog X.w X.K X.mg X.base (L2.CX X.prog X.w) k f fd ps (spZ X.K X.mg n (F j) (F sh)) ∧ Room k X.A ∧ X.mg x = some (.ref f) ∧ PySem.W.keepIn X.K (.ref f) = true ∧ Binds X.K fd ps []
  mts : ∀ m k j sh n, z.mz.lookup m = some (k, j, sh, n) → ∃ C f fd ps kk, CK X.K C k ∧ Cls X.K C ∧ Meth X.K C m f ∧ FnOk X.prog X.w X.K X.mg X.base (L2.CX X.prog X.w) kk f fd ps (spZ X.K X.mg n (F j) (F sh)) ∧ Room kk X.A ∧ Binds X.K fd ps []
  xcs : ∀ k, z.xc.contains k = true → ∃ C, ExO X.K X.mg C k
  iss : ∀ k d, z.is.contains (k, d) = true → ∃ C D, X.mg k = some (.ref C) ∧ X.mg d = some (.ref D) ∧ PySem.W.kitOne X.K (.ref C) (.ref D) = some false
def endR : List S → Bool
  | [] => false
  | [.ret _] => true
  | _ :: r => endR r
section
variable {X : Cx} {F : FE} {c : C} {z : ZT} {Y : XK}
end
end Wi

namespace Wi
open PySem PySem.Spec PyProof.Rows L2
section
variable {X : Cx} {e : Expr}
end
/-- the slot of the exception -/
def gd (i : Option Nat) (a : Addr) (σ : Sg) : Prop := ∀ j, i = some j → σ[j]? = some (some (.ref a))
section
variable {X : Cx} {c : C} {F : FE} {z : ZT} {k nm : Str} {a C0 : Addr} {oe : Obj} {pn : List (Addr × Obj)} {i : Nat}
end
end Wi

namespace Wi
open PySem PySem.Spec PyProof.Rows L2
section
variable {K : PySem.W.Frag} {mg : Str → Option Value} {F : FE} {env : En} {Ox : Addr → Prop} {Hb H : Hp} {σ : Sg} {ys : List E} {j sh m i : Nat} {k : Str} {C0 : Addr}
end
section
variable {X : Cx} {c : C} {F : FE} {z : ZT}
end
end Wi

namespace Wi
open PySem PySem.Spec PyProof.Rows L2
/-- the def's number, the number of the second def -/
abbrev ZL := List (Nat × Nat)
/-- what is known of classes of exceptions -/
structure HaveZ (K : PySem.W.Frag) (mg : Str → Option Value) (xc : List Str) (is : List (Str × Str)) : Prop where
  xcs : ∀ k, xc.contains k = true → ∃ C, ExO K mg C k
  iss : ∀ k d, is.contains (k, d) = true → ∃ C D, mg k = some (.ref C) ∧ mg d = some (.ref D) ∧ PySem.W.kitOne K (.ref C) (.ref D) = some false
section
variable {P : Program} {w : World} {K : PySem.W.Frag} {mg : Str → Option Value} {base : Heap} {fs : List FI} {bt : List Str} {lib : List (Str × String)} {tb : Tb} {Q : List Df} {zs : ZL} {xc : List Str} {is : List (Str × Str)}
end
end Wi

namespace Wc
open PySem Wi Wp
section
variable {F : FE} {qs : List Pt} {fl : Pt} {kind : Nat} {ab : List Nat}
end
end Wc

namespace Wc
open PySem Wi Wp
/-- f: the least place at which w beats are free of A -/
structure Gt (A : Nat → Int) (w : Int) (f : Nat) : Prop where
  hi : w ≤ (f : Int) - A f
  lo : ∀ t : Nat, t < f → (t : Int) - A t < w
theorem Gt.uniq {A : Nat → Int} {w : Int} {f g : Nat} (a : Gt A w f) (b : Gt A w g) : f = g := by
  rcases Nat.lt_trichotomy f g with h | h | h
  · have := b.lo f h; have := a.hi; omega
  · exact h
  · have := a.lo g h; have := b.hi; omega
theorem Gt.mono {A : Nat → Int} {v w : Int} {f g : Nat} (a : Gt A v f) (b : Gt A w g) (h : v ≤ w) : f ≤ g := by
  rcases Nat.lt_or_ge g f with q | q
  · have := a.lo g q; have := b.hi; omega
  · exact q
/-- the place of a class that is asked about alone with those above it -/
structure Fr0 (p : Plc) (s S n : Nat) (G com : Nat → Nat) : Prop where
  se : (s : Int) = p.own.s
  s1 : 1 ≤ s
  bl : p.bl = 0
  dd : ∀ t, dd p t = 0
  L : Lst (bsy p) 1 S
  ne : (n : Int) = cvI p.own.c S
  v1 : 1 ≤ cvI p.own.c 1
  g : ∀ w : Nat, w ≤ s * n → Gt (abl p.hi) w (G w) ∧ G w ≤ S
  c : Com p.own.c n com
  c1 : ∀ i, i < n → com i + 1 ≤ S
section
variable {p : Plc} {s S n : Nat} {G com : Nat → Nat}
/-- how many of one's own came up to t -/
def cnO (p : Plc) (t : Nat) : Nat := (cvI p.own.c t).toNat
theorem cnO_e (o : PlOk p) (t : Nat) : (cnO p t : Int) = cvI p.own.c t := Int.toNat_of_nonneg (o.own.c.nn t)
theorem cnO_mono (o : PlOk p) {t u : Nat} (h : t ≤ u) : cnO p t ≤ cnO p u := by
  have h1 := cnO_e o t; have h2 := cnO_e o u; have := o.own.c.mn.mono t u h; omega
theorem Fr0.bsy (f : Fr0 p s S n G com) (o : PlOk p) (t : Nat) : bsy p t = ((s * cnO p t : Nat) : Int) + abl p.hi t := by
  unfold Wc.bsy
  rw [f.bl, f.dd, ← f.se, ← cnO_e o t]
  push_cast
  omega
theorem Fr0.cS (f : Fr0 p s S n G com) (o : PlOk p) {t : Nat} (h : t ≤ S) : cnO p t ≤ n := by
  have h1 := cnO_mono o h
  have : cnO p S = n := by have := cnO_e o S; have := f.ne; omega
  omega
theorem Fr0.n1 (f : Fr0 p s S n G com) (o : PlOk p) : 1 ≤ n := by
  have h1 := f.cS o f.L.ge
  have h2 := cnO_e o 1
  have := f.v1
  omega
end
end Wc

namespace Wc
open PySem Wi Wp
section
variable {F : FE} {p : Plc} {s S n : Nat} {G com : Nat → Nat} {ip ine isp iu ia : Nat} {A B : D} {qs : List Pt} {k : Nat}
end
end Wc

namespace Wc
open PySem Wi Wp
section
variable {F : FE} {p : Plc} {s S n : Nat} {G com : Nat → Nat} {qs : List Pt} {k : Nat}
variable {itf isp' ic iv : Nat}
end
end Wc

namespace Wc
open PySem Wi Wp
section
variable {f g : Cv} {B : Nat}
end
section
variable {p : Plc} {s S n : Nat} {G com : Nat → Nat} {f g : Cv}
end
end Wc

namespace Wc
open PySem Wi Wp
section
variable {p : Plc} {s S n : Nat} {G com : Nat → Nat} {r : Rn}
end
structure SmK (q : Pt) : Prop where
  cl : ClOk q
  sub : ∀ a b, cvI q.c (a + b) ≤ cvI q.c a + cvI q.c b
  cap : ∀ t : Nat, q.s * cvI q.c t ≤ t + 14
  len : q.c.vs.length ≤ 8
  p : q.c.p ≤ 7
  s : q.s ≤ 3
  hd : q.c.vs.length ≤ q.c.p + 1
end Wc

namespace Wc
open PySem Wi Wp
section
variable {F : FE} {p : Plc} {s S n : Nat} {G com : Nat → Nat} {qs : List Pt} {k : Nat}
end
section
variable {F : FE} {row : List Int} {c : Nat → Int} {many : Nat} {iap itm : Nat}
end
end Wc

namespace Wc
open PySem Wi Wp
section
variable {f g : Cv}
end
end Wc

namespace Wc
open PySem Wi Wp
section
variable {p : Plc} {r : Rn} {G : Nat → Nat}
end
section
variable {C L : Nat → Int} {xs : List Int} {S n D : Nat} {G com : Nat → Nat}
end
end Wc

namespace Wc
open PySem Wi Wp
section
variable {F : FE} {row : List Int} {c : Nat → Int} {many : Nat} {iap itm iv : Nat}
/-- faults whose curve is subadditive -/
structure FdK (q : Pt) : Prop where
  fl : FlOk q
  s : q.s ≤ 3
  sub : ∀ a b, cvI q.c (a + b) ≤ cvI q.c a + cvI q.c b
  v1 : cvI q.c 1 ≤ 3
  p : q.c.p ≤ 7
  hd : q.c.vs.length ≤ q.c.p + 1
end
end Wc

namespace Wc
open PySem Wi Wp
section
variable {F : FE} {xs ys : List Int} {N : Nat} {ou co : Nat → Nat}
end
end Wc

namespace Wc
open PySem Wi Wp
section
variable {p : Plc} {S n D T : Nat} {G com : Nat → Nat} {L : Nat → Int}
end
end Wc

namespace Wc
open PySem Wi Wp
end Wc

namespace Wc
open PySem Wi Wp
theorem Lst.le {f : Nat → Int} {g : Nat → Int} {x y S T : Nat} (a : Lst f x S) (b : Lst g y T) (xy : x ≤ y) (h : f T ≤ T) : S ≤ T := by
  rcases Nat.lt_or_ge T S with q | q
  · have := a.min T (Nat.le_trans xy b.ge) q
    omega
  · exact q
theorem Lst.at0 {f : Nat → Int} {S : Nat} (a : Lst f 0 S) (nn : ∀ t, 0 ≤ f t) (mono : ∀ s t : Nat, s ≤ t → f s ≤ f t) : f S = S := by
  have h1 := a.fx
  rcases Nat.eq_zero_or_pos S with h | h
  · subst h
    have := nn 0
    omega
  · have h2 := a.min (S - 1) (Nat.zero_le _) (by omega)
    have h3 := mono (S - 1) S (by omega)
    omega
/-- p' asks no less than p -/
structure Hd (p p' : Plc) : Prop where
  s : p.own.s ≤ p'.own.s
  c : ∀ t, cvI p.own.c t ≤ cvI p'.own.c t
  ab : ∀ t, 1 ≤ t → p.bl + abl p.hi t ≤ p'.bl + abl p'.hi t
  dd : ∀ t, dd p t ≤ dd p' t
  ld : tooB p = true → tooB p' = true
section
variable {p p' : Plc} {r r' : Rn}
theorem Hd.sc (h : Hd p p') (o : PlOk p) (o' : PlOk p') (t : Nat) : p.own.s * cvI p.own.c t ≤ p'.own.s * cvI p'.own.c t :=
  Int.mul_le_mul h.s (h.c t) (o.own.c.nn t) o'.own.s0
theorem Hd.S (h : Hd p p') (o : PlOk p) (o' : PlOk p') (R : Run p r) (R' : Run p' r') : r.S ≤ r'.S := by
  refine R.L.le R'.L (Nat.le_refl _) ?_
  have h1 := R'.L.fx
  have h2 := h.sc o o' r'.S
  have h3 := h.ab r'.S R'.L.ge
  have h4 := h.dd r'.S
  unfold bsy at h1 ⊢
  omega
theorem Hd.n (h : Hd p p') (o : PlOk p) (o' : PlOk p') (R : Run p r) (R' : Run p' r') : r.n ≤ r'.n := by
  have h1 := R.n
  have h2 := R'.n
  have h3 := h.c r.S
  have h4 := o'.own.c.mn.mono _ _ (h.S o o' R R')
  omega
theorem Hd.is (h : Hd p p') (i : Nat) : (i : Int) * p.own.s ≤ (i : Int) * p'.own.s := Int.mul_le_mul_of_nonneg_left h.s (by omega)
theorem Hd.b (h : Hd p p') (o : PlOk p) (o' : PlOk p') (R : Run p r) (R' : Run p' r') {i : Nat} (hi : i < r.n) : r.sb i ≤ r'.sb i := by
  have hn := h.n o o' R R'
  refine (R.b i hi).le (R'.b i (by omega)) (Nat.le_refl _) ?_
  have h1 := (R'.b i (by omega)).fx
  have h2 := h.is i
  have h3 := h.ab (r'.sb i + 1) (by omega)
  have h4 := h.dd (r'.sb i + 1)
  unfold bgF at h1 ⊢
  omega
theorem Hd.e (h : Hd p p') (o : PlOk p) (o' : PlOk p') (R : Run p r) (R' : Run p' r') {i : Nat} (hi : i < r.n) : r.se i ≤ r'.se i := by
  have hn := h.n o o' R R'
  have hb := h.b o o' R R' hi
  refine (R.e i hi).le (R'.e i (by omega)) (by omega) ?_
  have h1 := (R'.e i (by omega)).fx
  have h2 := h.is (i + 1)
  have h3 := h.ab (r.sb i + 1) (by omega)
  have h4 := h.dd (r'.se i)
  have h5 := (R.b i hi).at0 (bg_nn o i) (bg_mono o i)
  have h6 := (R'.b i (by omega)).at0 (bg_nn o' i) (bg_mono o' i)
  have h7 := abl_mono o'.hi (show r.sb i + 1 ≤ r'.sb i + 1 by omega)
  rw [show ((i + 1 : Nat) : Int) = (i : Int) + 1 by omega, Int.add_mul, Int.add_mul, Int.one_mul, Int.one_mul] at h2
  unfold bgF at h5 h6
  unfold edF at h1 ⊢
  omega
theorem Hd.com (h : Hd p p') (R : Run p r) (R' : Run p' r') {i : Nat} (hi : i < r.n) (hn : r.n ≤ r'.n) : r'.com i ≤ r.com i := by
  rcases Nat.lt_or_ge (r.com i) (r'.com i) with q | q
  · have h1 := R'.c.lo i (r.com i) (by omega) q
    have h2 := R.c.up i hi
    have h3 := h.c (r.com i + 1)
    omega
  · exact q
theorem Hd.gr (h : Hd p p') (o : PlOk p) (o' : PlOk p') (R : Run p r) (R' : Run p' r') : grI r.se r.com r.n ≤ grI r'.se r'.com r'.n := by
  have hn := h.n o o' R R'
  have n1 := R.n1
  unfold grI
  have hm := mxI_mem ((List.range r.n).map fun i => ((r.se i : Nat) : Int) - (r.com i : Nat)) (by
    intro z
    have := congrArg List.length z
    simp at this
    omega)
  obtain ⟨i, hi, e⟩ := List.mem_map.mp hm
  rw [← e]
  have hi := List.mem_range.mp hi
  have h1 := h.e o o' R R' hi
  have h2 := h.com R R' hi hn
  have h3 : ((r'.se i : Nat) : Int) - (r'.com i : Nat) ≤ _ := mxI_ge (xs := (List.range r'.n).map fun i => ((r'.se i : Nat) : Int) - (r'.com i : Nat)) (List.mem_map.mpr ⟨i, List.mem_range.mpr (by omega), rfl⟩)
  omega
/-- no age is less -/
theorem Hd.age (h : Hd p p') (E : PlE p) (E' : PlE p') {g' : Int} (e : ageO p' = some g') : ∃ g, ageO p = some g ∧ g ≤ g' := by
  cases ht : tooB p' with
  | true => rw [age_no ht] at e; cases e
  | false =>
    have h0 : tooB p = false := by
      cases hb : tooB p with
      | false => rfl
      | true => rw [h.ld hb] at ht; cases ht
    obtain ⟨r, R, e1⟩ := age_run E h0
    obtain ⟨r', R', e2⟩ := age_run E' ht
    rw [e2] at e
    cases e
    exact ⟨_, e1, h.gr E.ok E'.ok R R'⟩
end
/-- q' asks no less than q -/
structure Qe (q q' : Pt) : Prop where
  s : q.s ≤ q'.s
  c : ∀ t, cvI q.c t ≤ cvI q'.c t
  r : q.s * q.c.m * q'.c.p ≤ q'.s * q'.c.m * q.c.p
theorem Qe.refl (q : Pt) : Qe q q := ⟨Int.le_refl _, fun _ => Int.le_refl _, Int.le_refl _⟩
inductive Mr : List Pt → List Pt → Prop
  | nil : Mr [] []
  | cons {q q' : Pt} {xs ys : List Pt} : Qe q q' → Mr xs ys → Mr (q :: xs) (q' :: ys)
  | more {q' : Pt} {xs ys : List Pt} : Mr xs ys → Mr xs (q' :: ys)
theorem Mr.refl : ∀ xs : List Pt, Mr xs xs
  | [] => .nil
  | q :: xs => .cons (Qe.refl q) (Mr.refl xs)
theorem Mr.app {xs ys us vs : List Pt} (a : Mr xs ys) (b : Mr us vs) : Mr (xs ++ us) (ys ++ vs) := by
  induction a with
  | nil => exact b
  | cons h _ ih => exact .cons h ih
  | more _ ih => exact .more ih
theorem Mr.ex : ∀ (xs : List Pt), Mr [] xs
  | [] => .nil
  | _ :: xs => .more (Mr.ex xs)
theorem Mr.map (f g : Nat → Pt) : ∀ (ab : List Nat), (∀ k ∈ ab, Qe (f k) (g k)) → Mr (ab.map f) (ab.map g)
  | [], _ => .nil
  | k :: ab, h => .cons (h k (List.mem_cons_self ..)) (Mr.map f g ab fun j hj => h j (List.mem_cons_of_mem _ hj))
theorem Mr.abl {xs ys : List Pt} (a : Mr xs ys) (hx : ∀ q ∈ xs, PtOk q) (hy : ∀ q ∈ ys, PtOk q) (t : Nat) : abl xs t ≤ abl ys t := by
  induction a with
  | nil => exact Int.le_refl _
  | @cons q q' xs ys h _ ih =>
    have h1 := ih (fun q h => hx q (List.mem_cons_of_mem _ h)) fun q h => hy q (List.mem_cons_of_mem _ h)
    have h2 := Int.mul_le_mul h.s (h.c t) ((hx q (List.mem_cons_self ..)).c.nn t) (hy q' (List.mem_cons_self ..)).s0
    unfold Wc.abl at h1 ⊢
    rw [List.map_cons, List.map_cons, List.sum_cons, List.sum_cons]
    omega
  | @more q' xs ys _ ih =>
    have h1 := ih hx fun q h => hy q (List.mem_cons_of_mem _ h)
    have h2 := (hy q' (List.mem_cons_self ..)).nn t
    unfold Wc.abl at h1 ⊢
    rw [List.map_cons (l := ys), List.sum_cons]
    omega
/-- a fraction that is no greater -/
structure Fle (x y : Int × Int) : Prop where
  x2 : 0 < x.2
  y2 : 0 < y.2
  y1 : 0 ≤ y.1
  le : x.1 * y.2 ≤ y.1 * x.2
theorem Fle.refl : Fle (0, 1) (0, 1) := ⟨by decide, by decide, by decide, by decide⟩
theorem ld1_nn {x : Int × Int} {q : Pt} (hq : PtOk q) (h1 : 0 ≤ x.1) (h2 : 0 < x.2) : 0 ≤ (ld1 x q).1 ∧ 0 < (ld1 x q).2 := by
  have hp : 0 < (q.c.p : Int) := by have := hq.c.mn.p; omega
  have hm := hq.c.mn.m
  have hs := hq.s0
  exact ⟨Int.add_nonneg (Int.mul_nonneg h1 (by omega)) (Int.mul_nonneg (Int.mul_nonneg hs hm) (by omega)), Int.mul_pos h2 hp⟩
theorem Fle.step {x y : Int × Int} {q q' : Pt} (h : Fle x y) (hq : PtOk q) (hq' : PtOk q') (e : Qe q q') : Fle (ld1 x q) (ld1 y q') := by
  have hp : 0 < (q.c.p : Int) := by have := hq.c.mn.p; omega
  have hp' : 0 < (q'.c.p : Int) := by have := hq'.c.mn.p; omega
  obtain ⟨n1, n2⟩ := ld1_nn hq' h.y1 h.y2
  refine ⟨Int.mul_pos h.x2 hp, n2, n1, ?_⟩
  show (x.1 * q.c.p + q.s * q.c.m * x.2) * (y.2 * q'.c.p) ≤ (y.1 * q'.c.p + q'.s * q'.c.m * y.2) * (x.2 * q.c.p)
  have a := Int.mul_le_mul_of_nonneg_right h.le (Int.mul_nonneg (Int.le_of_lt hp) (Int.le_of_lt hp'))
  have b := Int.mul_le_mul_of_nonneg_right e.r (Int.mul_nonneg (Int.le_of_lt h.x2) (Int.le_of_lt h.y2))
  have e1 : (x.1 * q.c.p + q.s * q.c.m * x.2) * (y.2 * q'.c.p) = x.1 * y.2 * (q.c.p * q'.c.p) + q.s * q.c.m * q'.c.p * (x.2 * y.2) := by
    rw [Int.add_mul]; congr 1 <;> ac_rfl
  have e2 : (y.1 * q'.c.p + q'.s * q'.c.m * y.2) * (x.2 * q.c.p) = y.1 * x.2 * (q.c.p * q'.c.p) + q'.s * q'.c.m * q.c.p * (x.2 * y.2) := by
    rw [Int.add_mul]; congr 1 <;> ac_rfl
  rw [e1, e2]
  exact Int.add_le_add a b
theorem Fle.more {x y : Int × Int} {q' : Pt} (h : Fle x y) (hq' : PtOk q') : Fle x (ld1 y q') := by
  have hp' : 0 < (q'.c.p : Int) := by have := hq'.c.mn.p; omega
  obtain ⟨n1, n2⟩ := ld1_nn hq' h.y1 h.y2
  refine ⟨h.x2, n2, n1, ?_⟩
  show x.1 * (y.2 * q'.c.p) ≤ (y.1 * q'.c.p + q'.s * q'.c.m * y.2) * x.2
  have a := Int.mul_le_mul_of_nonneg_right h.le (Int.le_of_lt hp')
  have b := Int.mul_nonneg (Int.mul_nonneg (Int.mul_nonneg hq'.s0 hq'.c.mn.m) (Int.le_of_lt h.y2)) (Int.le_of_lt h.x2)
  have e1 : x.1 * (y.2 * q'.c.p) = x.1 * y.2 * q'.c.p := by ac_rfl
  have e2 : (y.1 * q'.c.p + q'.s * q'.c.m * y.2) * x.2 = y.1 * x.2 * q'.c.p + q'.s * q'.c.m * y.2 * x.2 := by
    rw [Int.add_mul]; congr 1; ac_rfl
  rw [e1, e2]
  omega
theorem Fle.too {x y : Int × Int} (h : Fle x y) (l : 9 * x.2 < 10 * x.1) : 9 * y.2 < 10 * y.1 := by
  have a := Int.mul_lt_mul_of_pos_right l h.y2
  have e1 : 10 * x.1 * y.2 = 10 * (x.1 * y.2) := by ac_rfl
  have e2 : 9 * x.2 * y.2 = 9 * y.2 * x.2 := by ac_rfl
  have b := h.le
  have c : 9 * y.2 * x.2 < 10 * y.1 * x.2 := by
    rw [show 10 * y.1 * x.2 = 10 * (y.1 * x.2) by ac_rfl]
    omega
  exact Int.lt_of_mul_lt_mul_right c (Int.le_of_lt h.x2)
end Wc

namespace Wc
open PySem Wi Wp
section
variable {qs qs' : List Pt} {fl fl' : Pt} {kind : Nat} {ab ab' : List Nat}
end
def wo (xs : List Nat) (k : Nat) : List Nat := xs.filter fun j => decide (j ≠ k)
theorem wo_mem {xs : List Nat} {k j : Nat} : j ∈ wo xs k ↔ j ∈ xs ∧ j ≠ k := by
  unfold wo
  rw [List.mem_filter, decide_eq_true_eq]
theorem wo_lt {xs : List Nat} {k : Nat} (h : xs.Pairwise (· < ·)) : (wo xs k).Pairwise (· < ·) := h.filter _
def lowest (K : Nat → List Nat → Bool) (rest : List Nat) : Option Nat := rest.reverse.find? fun k => K k (wo rest k)
theorem lowest_some {K : Nat → List Nat → Bool} {rest : List Nat} {k : Nat} (h : lowest K rest = some k) : k ∈ rest ∧ K k (wo rest k) = true :=
  ⟨List.mem_reverse.mp (List.mem_of_find?_eq_some h), by have := List.find?_some h; simpa using this⟩
/-- what stands behind the places that are found: each with all others ahead of it above -/
structure Grd (K : Nat → List Nat → Bool) (m : Nat) (order rest : List Nat) : Prop where
  lt : rest.Pairwise (· < ·)
  nd : order.Nodup
  all : ∀ k, k < m ↔ k ∈ order ∨ k ∈ rest
  dis : ∀ k, k ∈ order → k ∉ rest
  kp : ∀ p, p < order.length → ∃ above : List Nat, above.Pairwise (· < ·) ∧ (∀ k, k ∈ above ↔ k ∈ rest ∨ k ∈ order.take p) ∧ K (og order p) above = true
theorem Grd.zero {K : Nat → List Nat → Bool} {m : Nat} : Grd K m [] (List.range m) :=
  ⟨List.pairwise_lt_range, List.nodup_nil, fun k => by simp, fun k h => (by cases h), fun p h => absurd h (by simp)⟩
theorem Grd.step {K : Nat → List Nat → Bool} {m k : Nat} {order rest : List Nat} (G : Grd K m order rest) (h : lowest K rest = some k) : Grd K m (k :: order) (wo rest k) := by
  obtain ⟨h1, h2⟩ := lowest_some h
  refine ⟨wo_lt G.lt, List.nodup_cons.mpr ⟨fun z => G.dis k z h1, G.nd⟩, fun j => ?_, fun j hj => ?_, fun p hp => ?_⟩
  · rw [G.all j, List.mem_cons, wo_mem]
    by_cases e : j = k
    · subst e; simp [h1]
    · simp [e]
  · rcases List.mem_cons.mp hj with rfl | hj
    · exact fun z => (wo_mem.mp z).2 rfl
    · exact fun z => G.dis j hj (wo_mem.mp z).1
  · cases p with
    | zero => exact ⟨wo rest k, wo_lt G.lt, fun j => by simp, h2⟩
    | succ p =>
      obtain ⟨a, h3, h4, h5⟩ := G.kp p (by simpa using hp)
      refine ⟨a, h3, fun j => ?_, ?_⟩
      · rw [h4 j, List.take_succ_cons, List.mem_cons, wo_mem]
        by_cases e : j = k
        · subst e; simp [h1]
        · simp [e]
      · have : og (k :: order) (p + 1) = og order p := by unfold og; rw [List.getElem?_cons_succ]
        rw [this]; exact h5
theorem Od.mem {od : List Nat} {m j : Nat} (O : Od od m) (h : j < m) : j ∈ od := by
  by_cases z : j ∈ od
  · exact z
  · have := ab_len (kind := j) O.nd (fun k hk => ⟨O.lt k hk, fun e => z (e ▸ hk)⟩) h
    have := O.len
    omega
end Wc

namespace Wc
open PySem Wi Wp
def without : Df := ⟨3, [.ret (.comp (.var 2) (.n 2) .val [(.var 0)] [2] (some (.cmp .ne (.var 2) (.var 1))))]⟩
@[simp] theorem srcs_revl {xs : List D} : srcs .rev [.list xs] = some xs.reverse := rfl
theorem aD_len (xs : List Nat) : (aD xs).length = xs.length := by unfold aD; simp
theorem noLs_aD : ∀ xs : List Nat, noLs (aD xs) = true
  | [] => rfl
  | _ :: r => by show (true && noLs (aD r)) = true; rw [noLs_aD r]; rfl
@[simp] theorem after_aDl {xs : List Nat} {l : List Nat} {env : En} : after (.l (aD xs)) l env = env := after_noL (noLs_aD xs)
theorem aD_rev (xs : List Nat) : (aD xs).reverse = aD xs.reverse := by unfold aD; rw [List.map_reverse]
theorem aD_get {xs : List Nat} {k : Nat} {x : D} (h : (aD xs)[k]? = some x) : ∃ j, xs[k]? = some j ∧ x = .int (j : Nat) := by
  unfold aD at h
  rw [List.getElem?_map] at h
  obtain ⟨j, e, rfl⟩ := Option.map_eq_some_iff.mp h
  exact ⟨j, e, rfl⟩
section
variable {F : FE} {qs : List Pt} {fl : Pt}
end
end Wc

namespace Wc
open PySem Wi Wp
section
variable {F : FE} {row : List Int} {c : Nat → Int} {many m : Nat} {qs : List Pt} {fl : Pt}
/-- plan, faults, a class whose load is not too great -/
structure Cs (qs : List Pt) (fl : Pt) (k : Nat) (most : Nat) : Prop where
  n : qs.length ≤ most
  lt : k < qs.length
  q : ∀ q ∈ qs, ClK q
  f : FlK fl
  too : tooB (plP qs fl k (List.range k)) = false
end
end Wc

namespace Wc
open PySem Wi Wp
/-- the first act from b on -/
def nx (s : Sm) (b : Int) : Int := b + ((s.o : Int) - b) % (s.p : Int)
end Wc

namespace Wc
open PySem Wi Wp
def gn (xs : List Nat) (k : Nat) : Nat := xs[k]?.getD 0
theorem gn_get {xs : List Nat} {k : Nat} (h : k < xs.length) : xs[k]? = some (gn xs k) := by unfold gn; rw [List.getElem?_eq_getElem h]; rfl
def mkc (ps os : List Nat) : List Sm := List.zipWith Sm.mk ps os
theorem mkc_len {ps os : List Nat} (h : os.length = ps.length) : (mkc ps os).length = ps.length := by unfold mkc; rw [List.length_zipWith]; omega
theorem mkc_smp {ps os : List Nat} (h : os.length = ps.length) {k : Nat} (hk : k < ps.length) : smp (mkc ps os) k = ⟨gn ps k, gn os k⟩ := by
  have h1 := gn_get hk
  have h2 := gn_get (xs := os) (k := k) (by omega)
  unfold smp mkc
  rw [List.getElem?_zipWith, h1, h2]; rfl
theorem mkc_p : ∀ {ps os : List Nat}, os.length = ps.length → (mkc ps os).map Sm.p = ps
  | [], [], _ => rfl
  | [], _ :: _, h => by simp at h
  | p :: ps, [], h => by simp at h
  | p :: ps, o :: os, h => by
    show p :: (mkc ps os).map Sm.p = _
    rw [mkc_p (by simpa using h)]
theorem mkc_ok {ps os : List Nat} (h : os.length = ps.length) (hp : ∀ k, k < ps.length → gn os k < gn ps k) (h30 : ∀ p ∈ ps, p ≤ 30) : ∀ s ∈ mkc ps os, SmOk s := fun s hs => by
  obtain ⟨k, hk, rfl⟩ := List.getElem_of_mem hs
  rw [mkc_len h] at hk
  rw [← smp_get, mkc_smp h hk]
  have h1 := hp k hk
  have h2 := h30 (gn ps k) (List.mem_of_getElem? (gn_get hk))
  exact ⟨by show 1 ≤ gn ps k; omega, h2, h1⟩
theorem mkc_chD {ps os : List Nat} : chD (mkc ps os) = ((ps.map Int.ofNat).zip (os.map Int.ofNat)).map pqD := by
  unfold chD mkc
  induction ps generalizing os with
  | nil => rfl
  | cons p r ih =>
    cases os with
    | nil => rfl
    | cons o os =>
      rw [List.zipWith_cons_cons, List.map_cons, ih]; rfl
theorem b_tzip {ps os : List Nat} : bF .tzip [.tuple (aD ps), .tuple (aD os)] = some (.v (.tuple (chD (mkc ps os)))) := by
  rw [aD_iD, aD_iD, mkc_chD]
  show (intsD (iD _)).bind _ = _
  rw [intsD_iD, Option.bind_some, intsD_iD]; rfl
def spnL (ps : List Nat) : Nat := ps.foldl Nat.lcm 1
theorem spn_ps (ch : List Sm) : spn ch = spnL (ch.map Sm.p) := by
  unfold spn spnL
  rw [List.foldl_map]
def prd (ps : List Nat) : Nat := ps.foldr (· * ·) 1
theorem prd_pos : ∀ {ps : List Nat}, (∀ p ∈ ps, 1 ≤ p) → 1 ≤ prd ps
  | [], _ => Nat.le_refl _
  | p :: r, h => by
    have h1 := h p List.mem_cons_self
    have h2 := prd_pos (ps := r) fun q hq => h q (List.mem_cons_of_mem _ hq)
    show 1 ≤ p * prd r
    exact Nat.mul_le_mul h1 h2
theorem lcm_prd : ∀ {ps : List Nat} (a : Nat), 1 ≤ a → (∀ p ∈ ps, 1 ≤ p) → ps.foldl Nat.lcm a ≤ a * prd ps
  | [], a, _, _ => by show a ≤ a * 1; omega
  | p :: r, a, ha, h => by
    have h1 := h p List.mem_cons_self
    have h2 := lcm_prd (ps := r) (Nat.lcm a p) (Nat.lcm_pos ha h1) fun q hq => h q (List.mem_cons_of_mem _ hq)
    have h3 : Nat.lcm a p ≤ a * p := Nat.le_of_dvd (Nat.mul_pos ha h1) (Nat.lcm_dvd_mul a p)
    have h4 : Nat.lcm a p * prd r ≤ a * p * prd r := Nat.mul_le_mul_right _ h3
    show (r.foldl Nat.lcm (Nat.lcm a p)) ≤ a * (p * prd r)
    rw [← Nat.mul_assoc]
    omega
theorem spnL_prd {ps : List Nat} (h : ∀ p ∈ ps, 1 ≤ p) : spnL ps ≤ prd ps := by
  have := lcm_prd (ps := ps) 1 (Nat.le_refl _) h
  rw [Nat.one_mul] at this; exact this
theorem prd_app : ∀ (a b : List Nat), prd (a ++ b) = prd a * prd b
  | [], b => by show prd b = 1 * prd b; omega
  | x :: r, b => by show x * prd (r ++ b) = x * prd r * prd b; rw [prd_app r b, Nat.mul_assoc]
theorem src_low : ∀ {ch : List Sm}, (∀ s ∈ ch, SmOk s) → ∀ b : Int, b - sw ch ch.length ≤ src ch b
  | [], _, b => by show b - 0 ≤ b; omega
  | s :: r, h, b => by
    have h1 := src_low (ch := r) (fun t ht => h t (List.mem_cons_of_mem _ ht)) b
    have h2 := act_le (h s List.mem_cons_self) (src r b)
    have h3 : sw (s :: r) (s :: r).length = ((s.p : Int) - 1) + sw r r.length := by
      unfold sw
      rw [List.take_length, List.take_length, List.map_cons, List.sum_cons]
    show b - sw (s :: r) (s :: r).length ≤ act s (src r b)
    omega
section
variable {ch : List Sm} (hok : ∀ s ∈ ch, SmOk s) (hn : 0 < ch.length)
include hok hn
theorem last_low {a : Int} (ha : act (smp ch (ch.length - 1)) a = a) : a - sw ch (ch.length - 1) ≤ src ch a := by
  have h1 := src_snoc (ch := ch) (k := ch.length - 1) (by omega) a
  rw [show ch.length - 1 + 1 = ch.length by omega, List.take_length, ha] at h1
  have h2 := src_low (ch := ch.take (ch.length - 1)) (fun s hs => hok s (List.mem_of_mem_take hs)) a
  have h3 : sw (ch.take (ch.length - 1)) (ch.take (ch.length - 1)).length = sw ch (ch.length - 1) := by
    unfold sw
    rw [List.take_length]
  rw [h1, ← h3]; exact h2
theorem gaI_le {M : Int} (h : ∀ a : Int, act (smp ch (ch.length - 1)) a = a → a - src ch a ≤ M) : gaI ch ≤ M := by
  obtain ⟨q, q1, hq, hq2⟩ := last_div hok hn
  unfold gaI
  rw [hq2]
  have ne : ((List.range q).map fun (k : Nat) => (((smp ch (ch.length - 1)).o : Int) + (k : Int) * (smp ch (ch.length - 1)).p) - src ch (((smp ch (ch.length - 1)).o : Int) + (k : Int) * (smp ch (ch.length - 1)).p)) ≠ [] := fun z => by
    rw [List.map_eq_nil_iff, List.range_eq_nil] at z
    omega
  obtain ⟨k, _, e⟩ := List.mem_map.mp (mxI_mem _ ne)
  rw [← e]
  refine h _ (act_fix ?_)
  rw [show ((smp ch (ch.length - 1)).o : Int) + (k : Int) * (smp ch (ch.length - 1)).p - ((smp ch (ch.length - 1)).o : Int) = (k : Int) * (smp ch (ch.length - 1)).p by omega, Int.mul_emod_left]
theorem gaI_ge {a : Int} (ha : act (smp ch (ch.length - 1)) a = a) : a - src ch a ≤ gaI ch := by
  obtain ⟨q, q1, hq, hq2⟩ := last_div hok hn
  have hP : ∀ (b k : Int), src ch (b + k * ((spn ch : Nat) : Int)) = src ch b + k * ((spn ch : Nat) : Int) := src_add spn_all
  have ok := hok _ (smp_mem (show ch.length - 1 < ch.length by omega))
  unfold gaI
  rw [hq2]
  rw [hq] at hP
  generalize smp ch (ch.length - 1) = s at *
  have p1 := ok.p1
  have d := act_mod (s := s) a
  rw [ha] at d
  obtain ⟨j, hj⟩ := Int.dvd_of_emod_eq_zero d
  have e := Int.mul_ediv_add_emod j (q : Int)
  have m0 := Int.emod_nonneg j (show (q : Int) ≠ 0 by omega)
  have m1 := Int.emod_lt_of_pos j (show 0 < (q : Int) by omega)
  have ea : a = ((s.o : Int) + (((j % (q : Int)).toNat : Nat) : Int) * s.p) + (j / (q : Int)) * ((s.p * q : Nat) : Int) := by
    rw [show (((j % (q : Int)).toNat : Nat) : Int) = j % (q : Int) by omega, Int.natCast_mul]
    generalize j % (q : Int) = m at *
    generalize j / (q : Int) = d at *
    have e2 : (s.p : Int) * j = m * s.p + d * ((s.p : Int) * (q : Int)) := by
      rw [← e, Int.mul_add, Int.mul_comm (s.p : Int) m, ← Int.mul_assoc, Int.mul_comm ((s.p : Int) * q) d]
      exact Int.add_comm _ _
    omega
  have h1 := hP ((s.o : Int) + (((j % (q : Int)).toNat : Nat) : Int) * s.p) (j / (q : Int))
  rw [← ea] at h1
  have h2 := mxI_ge (xs := (List.range q).map fun (k : Nat) => ((s.o : Int) + (k : Int) * s.p) - src ch ((s.o : Int) + (k : Int) * s.p)) (x := ((s.o : Int) + (((j % (q : Int)).toNat : Nat) : Int) * s.p) - src ch ((s.o : Int) + (((j % (q : Int)).toNat : Nat) : Int) * s.p)) (List.mem_map.mpr ⟨(j % (q : Int)).toNat, List.mem_range.mpr (by omega), rfl⟩)
  rw [h1]
  generalize (j / (q : Int)) * ((s.p * q : Nat) : Int) = w at *
  omega
theorem gaI_nn : 0 ≤ gaI ch := by
  have ok := hok _ (smp_mem (show ch.length - 1 < ch.length by omega))
  have h1 := gaI_ge hok hn (a := (smp ch (ch.length - 1)).o) (act_fix (by rw [Int.sub_self]; rfl))
  have h2 := src_le hok ((smp ch (ch.length - 1)).o : Int)
  omega
theorem gaI_top : gaI ch ≤ sw ch (ch.length - 1) := gaI_le hok hn fun a ha => by
  have := last_low hok hn ha
  omega
end
theorem act_mono {s : Sm} (p1 : 1 ≤ s.p) {a b : Int} (h : a ≤ b) : act s a ≤ act s b := by
  have e1 := Int.mul_ediv_add_emod (a - s.o) (s.p : Int)
  have e2 := Int.mul_ediv_add_emod (b - s.o) (s.p : Int)
  have h1 : (a - s.o) / (s.p : Int) ≤ (b - s.o) / (s.p : Int) := Int.ediv_le_ediv (by omega) (by omega)
  have h2 : (s.p : Int) * ((a - s.o) / (s.p : Int)) ≤ (s.p : Int) * ((b - s.o) / (s.p : Int)) := Int.mul_le_mul_of_nonneg_left h1 (by omega)
  unfold act
  omega
/-- an age that no offsets avoid -/
theorem gaI_gcd {ch : List Sm} (hok : ∀ s ∈ ch, SmOk s) {k : Nat} (hk : k < ch.length - 1) : ((smp ch k).p : Int) - (Nat.gcd (smp ch k).p (smp ch (ch.length - 1)).p : Nat) ≤ gaI ch := by
  have ge := fun a => gaI_ge hok (by omega) (a := a)
  have okl := hok _ (smp_mem (show ch.length - 1 < ch.length by omega))
  have okk := hok _ (smp_mem (show k < ch.length by omega))
  have up : ∀ a, src ch a ≤ act (smp ch k) a := fun a => by
    have e : src ch a = src (ch.take k) (src (ch.drop k) a) := by
      unfold src
      rw [← List.foldr_append, List.take_append_drop]
    have h1 := src_le (ch := ch.take k) (fun s hs => hok s (List.mem_of_mem_take hs)) (src (ch.drop k) a)
    have h2 := src_drop (show k < ch.length by omega) a
    have h3 := src_le (ch := ch.drop (k + 1)) (fun s hs => hok s (List.mem_of_mem_drop hs)) a
    have h4 := act_mono okk.p1 h3
    rw [e]
    omega
  generalize smp ch k = s at *
  generalize smp ch (ch.length - 1) = t at *
  obtain ⟨x, y, e⟩ := bez s.p t.p
  obtain ⟨P, hP⟩ := Nat.gcd_dvd_left s.p t.p
  have p1 := okk.p1
  have g1 : 1 ≤ Nat.gcd s.p t.p := Nat.gcd_pos_of_pos_left _ p1
  generalize Nat.gcd s.p t.p = g at *
  have r0 := Int.emod_nonneg ((t.o : Int) - s.o) (show (g : Int) ≠ 0 by omega)
  have r1 := Int.emod_lt_of_pos ((t.o : Int) - s.o) (show 0 < (g : Int) by omega)
  have rd := Int.mul_ediv_add_emod ((t.o : Int) - s.o) (g : Int)
  generalize ((t.o : Int) - s.o) / (g : Int) = u at *
  generalize ((t.o : Int) - s.o) % (g : Int) = r at *
  have hP1 : 1 ≤ P := by
    rcases Nat.eq_zero_or_pos P with z | z
    · rw [z, Nat.mul_zero] at hP; omega
    · exact z
  have hgP : (s.p : Int) = (g : Int) * (P : Int) := by rw [hP, Int.natCast_mul]
  have hg2 : (g : Int) ≤ s.p := by
    have : (g : Int) * 1 ≤ (g : Int) * (P : Int) := Int.mul_le_mul_of_nonneg_left (by omega) (by omega)
    omega
  have ha := ge ((t.o : Int) + y * ((P : Int) - 1 - u) * t.p) (act_fix (by
    rw [show (t.o : Int) + y * ((P : Int) - 1 - u) * t.p - t.o = y * ((P : Int) - 1 - u) * t.p by omega, Int.mul_emod_left]))
  have hu := up ((t.o : Int) + y * ((P : Int) - 1 - u) * t.p)
  have key : ((t.o : Int) + y * ((P : Int) - 1 - u) * t.p - s.o) % (s.p : Int) = (s.p : Int) - g + r := by
    have e2 : y * ((P : Int) - 1 - u) * t.p = (g : Int) * ((P : Int) - 1 - u) - (s.p : Int) * (x * ((P : Int) - 1 - u)) := by
      rw [← e, Int.add_mul, Int.mul_comm x (s.p : Int), Int.mul_assoc (s.p : Int) x, Int.mul_assoc y, Int.mul_assoc y, Int.mul_comm (t.p : Int) ((P : Int) - 1 - u)]
      omega
    have e3 : (g : Int) * ((P : Int) - 1 - u) = (s.p : Int) - g - g * u := by rw [Int.mul_sub, Int.mul_sub, ← hgP, Int.mul_one]
    rw [show (t.o : Int) + y * ((P : Int) - 1 - u) * t.p - s.o = ((s.p : Int) - g + r) + (s.p : Int) * (-(x * ((P : Int) - 1 - u))) by rw [Int.mul_neg, e2, e3]; omega, Int.add_mul_emod_self_left]
    exact Int.emod_eq_of_lt (by omega) (by omega)
  unfold act at hu
  rw [key] at hu
  omega
/-- two samplers that begin together -/
theorem gaI_two {p q : Nat} (hp : 1 ≤ p ∧ p ≤ 30) (hq : 1 ≤ q ∧ q ≤ 30) : gaI [⟨p, 0⟩, ⟨q, 0⟩] ≤ (p : Int) - (Nat.gcd p q : Nat) := by
  have hok : ∀ s ∈ [(⟨p, 0⟩ : Sm), ⟨q, 0⟩], SmOk s := fun s hs => by
    simp at hs
    rcases hs with rfl | rfl
    · exact ⟨hp.1, hp.2, hp.1⟩
    · exact ⟨hq.1, hq.2, hq.1⟩
  refine gaI_le hok (by simp) fun a ha => ?_
  replace ha : act ⟨q, 0⟩ a = a := ha
  have d := act_mod (s := ⟨q, 0⟩) a
  rw [ha] at d
  replace d : (a - ((0 : Nat) : Int)) % (q : Int) = 0 := d
  rw [show a - ((0 : Nat) : Int) = a by omega] at d
  show a - act ⟨p, 0⟩ (act ⟨q, 0⟩ a) ≤ _
  rw [ha]
  show a - (a - (a - ((0 : Nat) : Int)) % (p : Int)) ≤ _
  rw [show a - ((0 : Nat) : Int) = a by omega]
  have m1 := Int.emod_lt_of_pos a (show 0 < (p : Int) by omega)
  have e := Int.mul_ediv_add_emod a (p : Int)
  have g1 : (Nat.gcd p q : Int) ∣ (p : Int) := Int.natCast_dvd_natCast.mpr (Nat.gcd_dvd_left p q)
  have g2 : (Nat.gcd p q : Int) ∣ (q : Int) := Int.natCast_dvd_natCast.mpr (Nat.gcd_dvd_right p q)
  have g3 : (Nat.gcd p q : Int) ∣ (p : Int) - a % (p : Int) := by
    have h1 := Int.dvd_sub (Int.dvd_trans g2 (Int.dvd_of_emod_eq_zero d)) (Int.dvd_trans g1 (Int.dvd_mul_right (p : Int) (a / (p : Int))))
    rw [show a - (p : Int) * (a / (p : Int)) = a % (p : Int) by omega] at h1
    exact Int.dvd_sub g1 h1
  have := Int.le_of_dvd (by omega) g3
  omega
def wS (ps : List Nat) (k : Nat) : Int := ((ps.dropLast.drop k).map fun (p : Nat) => (p : Int) - 1).sum
theorem wS_s {ps : List Nat} {k : Nat} (h : k < ps.length - 1) : wS ps k = ((gn ps k : Int) - 1) + wS ps (k + 1) := by
  unfold wS
  have hl : k < ps.dropLast.length := by rw [List.length_dropLast]; exact h
  rw [List.drop_eq_getElem_cons hl, List.map_cons, List.sum_cons, List.getElem_dropLast]
  have := gn_get (show k < ps.length by omega)
  rw [List.getElem?_eq_getElem (by omega)] at this
  rw [Option.some.inj this]
theorem wS_end (ps : List Nat) : wS ps (ps.length - 1) = 0 := by
  unfold wS
  rw [List.drop_eq_nil_of_le (by rw [List.length_dropLast]; exact Nat.le_refl _)]; rfl
def wof (ps : List Nat) : List Nat := (List.range ps.length).map fun k => ((-(wS ps k)) % (gn ps k : Int)).toNat
theorem wof_len (ps : List Nat) : (wof ps).length = ps.length := by unfold wof; simp
theorem wof_get {ps : List Nat} {k : Nat} (h : k < ps.length) : gn (wof ps) k = ((-(wS ps k)) % (gn ps k : Int)).toNat := by
  unfold wof
  show ((List.map _ _)[k]?).getD 0 = _
  rw [List.getElem?_map, List.getElem?_range h]; rfl
section
variable {ps : List Nat} (h1 : ∀ p ∈ ps, 1 ≤ p)
include h1
theorem gnp {k : Nat} (h : k < ps.length) : 1 ≤ gn ps k := h1 _ (List.mem_of_getElem? (gn_get h))
theorem wof_int {k : Nat} (h : k < ps.length) : ((gn (wof ps) k : Nat) : Int) = (-(wS ps k)) % (gn ps k : Int) := by
  have p1 := gnp h1 h
  have := Int.emod_nonneg (-(wS ps k)) (show (gn ps k : Int) ≠ 0 by omega)
  rw [wof_get h]
  omega
theorem wof_lt {k : Nat} (h : k < ps.length) : gn (wof ps) k < gn ps k := by
  have p1 := gnp h1 h
  have := wof_int h1 h
  have := Int.emod_lt_of_pos (-(wS ps k)) (show 0 < (gn ps k : Int) by omega)
  omega
theorem src_worst (hn : 0 < ps.length) : ∀ i, i ≤ ps.length - 1 → src ((mkc ps (wof ps)).drop (ps.length - 1 - i)) 0 = -(wS ps (ps.length - 1 - i))
  | 0, _ => by
    have hl := mkc_len (wof_len ps)
    have hk : ps.length - 1 < ps.length := by omega
    have p1 := gnp h1 hk
    rw [Nat.sub_zero, src_drop (by omega), List.drop_of_length_le (by omega), mkc_smp (wof_len ps) hk, wS_end]
    have ho := wof_int h1 hk
    rw [wS_end] at ho
    show act _ 0 = _
    unfold act
    show 0 - (0 - ((gn (wof ps) (ps.length - 1) : Nat) : Int)) % _ = _
    rw [ho]
    simp
  | i + 1, hi => by
    have hl := mkc_len (wof_len ps)
    have ih := src_worst hn i (by omega)
    have hk : ps.length - 1 - (i + 1) < ps.length := by omega
    have p1 := gnp h1 hk
    have ho := wof_int h1 hk
    rw [src_drop (by omega), show ps.length - 1 - (i + 1) + 1 = ps.length - 1 - i by omega, ih, mkc_smp (wof_len ps) hk]
    have hs := wS_s (ps := ps) (k := ps.length - 1 - (i + 1)) (by omega)
    rw [show ps.length - 1 - (i + 1) + 1 = ps.length - 1 - i by omega] at hs
    rw [hs] at ho ⊢
    generalize wS ps (ps.length - 1 - i) = w at *
    unfold act
    show -w - (-w - ((gn (wof ps) (ps.length - 1 - (i + 1)) : Nat) : Int)) % ((gn ps (ps.length - 1 - (i + 1)) : Nat) : Int) = _
    generalize gn (wof ps) (ps.length - 1 - (i + 1)) = o at *
    generalize gn ps (ps.length - 1 - (i + 1)) = p at *
    have e := Int.mul_ediv_add_emod (-((p : Int) - 1 + w)) (p : Int)
    have key : (-w - (o : Int)) % (p : Int) = (p : Int) - 1 := by
      rw [show -w - (o : Int) = ((p : Int) - 1) + (p : Int) * (-((p : Int) - 1 + w) / (p : Int)) by omega, Int.add_mul_emod_self_left]
      exact Int.emod_eq_of_lt (by omega) (by omega)
    rw [key]; omega
theorem sw_worst : sw (mkc ps (wof ps)) (ps.length - 1) = wS ps 0 := by
  unfold sw wS
  have e : ((mkc ps (wof ps)).take (ps.length - 1)).map (fun s => (s.p : Int) - 1) = (((mkc ps (wof ps)).map Sm.p).take (ps.length - 1)).map fun (p : Nat) => (p : Int) - 1 := by
    rw [← List.map_take, List.map_map]; rfl
  rw [e, mkc_p (wof_len ps), List.drop_zero, List.dropLast_eq_take]
theorem gaI_worst (h30 : ∀ p ∈ ps, p ≤ 30) (hn : 0 < ps.length) : gaI (mkc ps (wof ps)) = sw (mkc ps (wof ps)) (ps.length - 1) := by
  have hl := mkc_len (wof_len ps)
  have hok := mkc_ok (wof_len ps) (fun k hk => wof_lt h1 hk) h30
  have hk : ps.length - 1 < ps.length := by omega
  have p1 := gnp h1 hk
  have t := gaI_top hok (by omega)
  have g := gaI_ge hok (by omega) (a := 0)
  rw [hl] at t g
  have ho := wof_int h1 hk
  rw [wS_end] at ho
  rw [mkc_smp (wof_len ps) hk] at g
  have g := g (act_fix (by
    show (0 - ((gn (wof ps) (ps.length - 1) : Nat) : Int)) % _ = 0
    rw [ho]; simp))
  have s := src_worst h1 hn (ps.length - 1) (Nat.le_refl _)
  rw [Nat.sub_self, List.drop_zero] at s
  rw [s] at g
  rw [sw_worst h1] at t ⊢
  omega
end
def extR (rs : List (List Nat)) (p : Nat) : List (List Nat) := rs.flatMap fun x => (List.range p).map fun o => x ++ [o]
def rowsK (ps : List Nat) (k : Nat) : List (List Nat) := (ps.take k).foldl extR [[0]]
theorem rowsK_s {ps : List Nat} {k : Nat} (h : k < ps.length) : rowsK ps (k + 1) = extR (rowsK ps k) (gn ps k) := by
  unfold rowsK
  rw [List.take_add_one, gn_get h, List.foldl_append]; rfl
theorem ext_len (rs : List (List Nat)) (p : Nat) : (extR rs p).length = rs.length * p := by
  unfold extR
  induction rs with
  | nil => simp
  | cons x r ih => rw [List.flatMap_cons, List.length_append, ih, List.length_map, List.length_range, List.length_cons, Nat.add_mul]; omega
theorem prd_take {ps : List Nat} {k : Nat} (h : k < ps.length) : prd (ps.take (k + 1)) = prd (ps.take k) * gn ps k := by
  rw [List.take_add_one, gn_get h, prd_app]
  show _ * (gn ps k * 1) = _
  rw [Nat.mul_one]
theorem rowsK_len {ps : List Nat} : ∀ {k : Nat}, k ≤ ps.length → (rowsK ps k).length = prd (ps.take k)
  | 0, _ => rfl
  | k + 1, h => by rw [rowsK_s (by omega), ext_len, rowsK_len (by omega), prd_take (by omega)]
theorem gn_app {x : List Nat} {o k : Nat} : gn (x ++ [o]) k = if k < x.length then gn x k else if k = x.length then o else 0 := by
  unfold gn
  by_cases h : k < x.length
  · rw [if_pos h, List.getElem?_append_left h]
  · rw [if_neg h, List.getElem?_append_right (by omega)]
    by_cases z : k = x.length
    · rw [if_pos z, z, Nat.sub_self]; rfl
    · rw [if_neg z, List.getElem?_eq_none (by simp; omega)]; rfl
theorem rowsK_mem {ps : List Nat} : ∀ {k : Nat}, k ≤ ps.length → ∀ r ∈ rowsK ps k, r.length = k + 1 ∧ gn r 0 = 0 ∧ ∀ j, j < k → gn r (j + 1) < gn ps j
  | 0, _, r, hr => by
    rw [List.mem_singleton.mp hr]
    exact ⟨rfl, rfl, fun j hj => by omega⟩
  | k + 1, h, r, hr => by
    rw [rowsK_s (by omega)] at hr
    obtain ⟨x, hx, hr⟩ := List.mem_flatMap.mp hr
    obtain ⟨o, ho, rfl⟩ := List.mem_map.mp hr
    have ho := List.mem_range.mp ho
    obtain ⟨a, b, c⟩ := rowsK_mem (show k ≤ ps.length by omega) x hx
    refine ⟨by rw [List.length_append, a]; rfl, by rw [gn_app, if_pos (by omega)]; exact b, fun j hj => ?_⟩
    rw [gn_app, a]
    by_cases z : j < k
    · rw [if_pos (by omega)]; exact c j z
    · have : j = k := by omega
      subst this
      rw [if_neg (by omega), if_pos rfl]; exact ho
theorem rowsK_head {ps : List Nat} (h1 : ∀ p ∈ ps, 1 ≤ p) : ∀ {k : Nat}, k ≤ ps.length → ∃ rest, rowsK ps k = List.replicate (k + 1) 0 :: rest
  | 0, _ => ⟨[], rfl⟩
  | k + 1, h => by
    obtain ⟨rest, e⟩ := rowsK_head h1 (show k ≤ ps.length by omega)
    have p1 := gnp h1 (show k < ps.length by omega)
    obtain ⟨m, hm⟩ : ∃ m, gn ps k = m + 1 := ⟨gn ps k - 1, by omega⟩
    rw [rowsK_s (by omega), e, hm]
    unfold extR
    rw [List.flatMap_cons, List.range_succ_eq_map, List.map_cons, List.cons_append]
    have z : List.replicate (k + 1) 0 ++ [0] = List.replicate (k + 1 + 1) 0 := by rw [List.replicate_succ' (n := k + 1)]
    rw [z]
    exact ⟨_, rfl⟩
/-- the search keeps the least one -/
def stB (G : List Nat → Int) (st : List Nat × Int) (r : List Nat) : List Nat × Int := if G r < st.2 then (r, G r) else st
theorem fold_best (G : List Nat → Int) : ∀ (rs : List (List Nat)) (st : List Nat × Int), (rs.foldl (stB G) st).2 ≤ st.2 ∧ (∀ r ∈ rs, (rs.foldl (stB G) st).2 ≤ G r) ∧ (rs.foldl (stB G) st = st ∨ ((rs.foldl (stB G) st).1 ∈ rs ∧ (rs.foldl (stB G) st).2 = G (rs.foldl (stB G) st).1))
  | [], st => ⟨Int.le_refl _, (fun r h => by cases h), .inl rfl⟩
  | x :: rs, st => by
    obtain ⟨a, b, c⟩ := fold_best G rs (stB G st x)
    rw [List.foldl_cons]
    have hx : (stB G st x).2 ≤ st.2 ∧ (stB G st x).2 ≤ G x ∧ (stB G st x = st ∨ ((stB G st x).1 = x ∧ (stB G st x).2 = G x)) := by
      unfold stB
      by_cases z : G x < st.2
      · rw [if_pos z]; exact ⟨by show G x ≤ _; omega, Int.le_refl _, .inr ⟨rfl, rfl⟩⟩
      · rw [if_neg z]; exact ⟨Int.le_refl _, by omega, .inl rfl⟩
    refine ⟨by omega, fun r hr => ?_, ?_⟩
    · rcases List.mem_cons.mp hr with rfl | q
      · omega
      · exact b r q
    · rcases c with c | ⟨c1, c2⟩
      · rw [c]
        rcases hx.2.2 with q | ⟨q1, q2⟩
        · exact .inl q
        · exact .inr ⟨by rw [q1]; exact List.mem_cons_self, by rw [q1]; exact q2⟩
      · exact .inr ⟨List.mem_cons_of_mem _ c1, c2⟩
end Wc

/-! the defs of withinage_k88_whole_offsets in the small language (printed by wgen.py) -/
namespace Lw
open PySem PySem.Spec PyProof.Rows L2 Wi
def d0 : Df := Wp.m0
def d1 : Df := Wp.m1
def d2 : Df := Wp.m2
def d3 : Df := Wp.m3
def d4 : Df := Wc.chspan 
def d5 : Df := Wc.source 
def d6 : Df := Wc.lacts 4
def d7 : Df := Wc.gact 5 6
def d8 : Df := Wc.gheld 7
def d9 : Df := ⟨4, [.asg 1 (.lit (.int 0)), .asg 2 (.lst [(.lit (.int 0))]), .for_ (.n 3) .rev [(.sl (.var 0) none (some (.neg (.lit (.int 1)))))] [.aug 1 .sub (.bin .sub (.var 3) (.lit (.int 1))), .app 2 (.bin .mod (.var 1) (.var 3))], .ret (.bi .trev [(.var 2)])]⟩
def d10 : Df := ⟨5, [.asg 2 (.lit (.int 0)), .for_ (.n 3) .val [(.call 6 [(.var 0)])] [.asg 4 (.bin .sub (.var 3) (.call 5 [(.var 0), (.var 3)])), .ite (.cmp .ge (.var 4) (.var 1)) [.ret (.lit .none)] [], .asg 2 (.bi .mx [(.var 2), (.var 4)])], .ret (.var 2)]⟩
def d11 : Df := ⟨8, [.asg 1 (.lst [(.tup [(.lit (.int 0))])]), .for_ (.n 2) .val [(.sl (.var 0) (some (.lit (.int 1))) none)] [.asg 1 (.comp2 (.bin .add (.var 3) (.tup [(.var 7)])) (.n 3) .val [(.var 1)] (.n 7) (.var 2) [3, 7] [7])], .asg 4 (.ix (.var 1) (.lit (.int 0))), .asg 5 (.bi .sum [(.var 0)]), .for_ (.n 3) .val [(.var 1)] [.asg 6 (.call 10 [(.bi .tzip [(.var 0), (.var 3)]), (.var 5)]), .ite (.cmp .isnt (.var 6) (.lit .none)) [.asg 4 (.var 3), .asg 5 (.var 6)] []], .ret (.var 4)]⟩
def d12 : Df := Wc.lgcd 
def d13 : Df := Wc.llcm 12
def d14 : Df := Wc.lchain 13 12
def d15 : Df := Wc.lchspan 13
def d16 : Df := Wc.lheld86 
def d17 : Df := ⟨5, [.for_ (.n 2) .rng [(.bi .len [(.var 0)])] [.unp [(.n 3), (.n 4)] (.ix (.var 0) (.bin .sub (.bin .sub (.bi .len [(.var 0)]) (.lit (.int 1))) (.var 2))), .aug 1 .sub (.bin .mod (.bi .int [(.bin .sub (.var 1) (.var 4))]) (.var 3))], .ret (.var 1)]⟩
def d18 : Df := ⟨7, [.unp [(.n 2), (.n 3)] (.ix (.var 0) (.neg (.lit (.int 1)))), .asg 4 (.lit (.int 0)), .for_ (.n 5) .rng [(.bin .fdiv (.call 15 [(.var 0)]) (.var 2))] [.asg 6 (.bin .add (.var 3) (.bin .mul (.var 5) (.var 2))), .asg 4 (.bi .mx [(.var 4), (.bin .sub (.var 6) (.call 17 [(.var 0), (.var 6)]))]), .ite (.cmp .ge (.var 4) (.var 1)) [.brk] []], .ret (.var 4)]⟩
def d19 : Df := ⟨7, [.asg 1 (.call 15 [(.var 0)]), .asg 2 (.call 16 [(.var 0), (.var 1)]), .unp [(.n 3), (.n 4)] (.ix (.var 0) (.neg (.lit (.int 1)))), .asg 5 (.comp (.var 6) (.n 6) .rng [(.var 1)] [6] (some (.cmp .eq (.bin .mod (.bi .int [(.bin .sub (.var 6) (.var 4))]) (.var 3)) (.lit (.int 0))))), .ret (.tup [(.bi .mx [(.comp (.bin .sub (.var 6) (.ix (.var 2) (.var 6))) (.n 6) .val [(.var 5)] [6] none)]), (.bi .mx [(.comp (.bin .sub (.var 6) (.ix (.var 2) (.var 6))) (.n 6) .rng [(.var 1)] [6] none)])])]⟩
def d20 : Df := ⟨3, [.ret (.bi .tuple [(.comp (.tup [(.ix (.var 0) (.var 2)), (.ix (.var 1) (.var 2))]) (.n 2) .rng [(.bi .len [(.var 0)])] [2] none)])]⟩
def d21 : Df := ⟨10, [.asg 1 (.lst [(.tup [(.lit (.int 0))])]), .for_ (.n 2) .val [(.sl (.var 0) (some (.lit (.int 1))) none)] [.asg 3 (.lst []), .for_ (.n 4) .val [(.var 1)] [.ext 3 (.comp (.bin .add (.var 4) (.tup [(.var 9)])) (.n 9) .rng [(.var 2)] [9] none)], .asg 1 (.var 3)], .asg 5 (.ix (.var 1) (.lit (.int 0))), .asg 6 (.bi .sum [(.var 0)]), .for_ (.n 7) .val [(.var 1)] [.asg 8 (.call 18 [(.call 20 [(.var 0), (.var 7)]), (.var 6)]), .ite (.cmp .lt (.var 8) (.var 6)) [.asg 6 (.var 8), .asg 5 (.var 7)] []], .ret (.tup [(.var 5), (.var 6)])]⟩
def d22 : Df := ⟨8, [.asg 2 (.ix (.tup [(.lit (.int 40)), (.lit (.int 40)), (.lit (.int 500))]) (.bin .mod (.bi .int [(.ix (.var 0) (.var 1))]) (.lit (.int 3)))), .asg 3 (.lst []), .asg 4 (.lit (.int 1)), .for_ (.n 5) .rng [(.bin .add (.lit (.int 1)) (.bin .mod (.bi .int [(.ix (.var 0) (.bin .add (.var 1) (.lit (.int 1))))]) (.lit (.int 4))))] [.asg 6 (.bin .add (.lit (.int 1)) (.bin .mod (.bi .int [(.ix (.var 0) (.bin .add (.bin .add (.var 1) (.lit (.int 2))) (.var 5)))]) (.ix (.tup [(.lit (.int 8)), (.lit (.int 30))]) (.bin .mod (.bi .int [(.ix (.var 0) (.bin .add (.var 1) (.lit (.int 6))))]) (.lit (.int 2)))))), .ite (.cmp .gt (.bin .mul (.var 4) (.var 6)) (.var 2)) [.asg 6 (.bi .mx [(.lit (.int 1)), (.bin .fdiv (.var 2) (.var 4))])] [], .app 3 (.bi .mn [(.var 6), (.lit (.int 30))]), .asg 4 (.bin .mul (.var 4) (.ix (.var 3) (.var 5)))], .asg 7 (.bin .mod (.bi .int [(.ix (.var 0) (.bin .add (.var 1) (.lit (.int 7))))]) (.bi .len [(.var 3)])), .ret (.bi .tuple [(.bin .add (.sl (.var 3) (some (.var 7)) none) (.sl (.var 3) none (some (.var 7))))])]⟩
def d23 : Df := ⟨17, [.asg 1 (.call 1 [(.var 0), (.lit (.int 50))]), .asg 2 (.call 14 [(.var 1), (.lit (.int 1)), (.ix (.tup [(.lit (.int 60)), (.lit (.int 5000))]) (.bi .int [(.cmp .eq (.bin .mod (.bi .int [(.ix (.var 1) (.lit (.int 0)))]) (.lit (.int 16))) (.lit (.int 7)))]))]), .asg 3 (.bi .tuple [(.comp (.var 13) (.t [(.n 13), (.n 14)]) .val [(.var 2)] [13, 14] none)]), .asg 4 (.bin .sub (.bi .sum [(.var 3)]) (.bi .len [(.var 3)])), .asg 5 (.call 9 [(.var 3)]), .ite (.or (.not (.isi (.var 5) .tuple)) (.or (.cmp .ne (.bi .len [(.var 5)]) (.bi .len [(.var 3)])) (.not (.bi .all [(.comp (.call 2 [(.var 15)]) (.n 15) .val [(.var 5)] [15] none)])))) [.ret (.lit (.bool false))] [], .ite (.not (.bi .all [(.comp (.chn .le .lt (.lit (.int 0)) (.ix (.var 5) (.var 16)) (.ix (.var 3) (.var 16))) (.n 16) .rng [(.bi .len [(.var 3)])] [16] none)])) [.ret (.lit (.bool false))] [], .asg 6 (.call 20 [(.var 3), (.var 5)]), .ite (.or (.cmp .ne (.call 19 [(.var 6)]) (.tup [(.bin .add (.bin .sub (.var 4) (.ix (.var 3) (.neg (.lit (.int 1))))) (.lit (.int 1))), (.var 4)])) (.not (.call 3 [(.call 8 [(.var 6)]), (.var 4)]))) [.ret (.lit (.bool false))] [], .unp [(.n 7), (.n 8)] (.call 19 [(.var 2)]), .ite (.or (.cmp .gt (.var 8) (.var 4)) (.not (.call 3 [(.call 7 [(.var 2)]), (.var 7)]))) [.ret (.lit (.bool false))] [], .ite (.not (.call 3 [(.call 8 [(.var 2)]), (.var 8)])) [.ret (.lit (.bool false))] [], .asg 9 (.call 22 [(.var 1), (.lit (.int 20))]), .unp [(.n 10), (.n 11)] (.call 21 [(.var 9)]), .asg 12 (.bi .mx [(.bin .add (.lst [(.lit (.int 0))]) (.comp (.bin .sub (.var 13) (.call 12 [(.var 13), (.ix (.var 9) (.neg (.lit (.int 1))))])) (.n 13) .val [(.sl (.var 9) none (some (.neg (.lit (.int 1)))))] [13] none))]), .ite (.or (.cmp .lt (.var 11) (.var 12)) (.and (.cmp .eq (.bi .len [(.var 9)]) (.lit (.int 2))) (.cmp .ne (.var 11) (.var 12)))) [.ret (.lit (.bool false))] [], .ret (.and (.call 3 [(.call 11 [(.var 9)]), (.var 10)]) (.call 3 [(.call 7 [(.call 20 [(.var 9), (.var 10)])]), (.var 11)]))]⟩
def Pd : List Df := [d0, d1, d2, d3, d4, d5, d6, d7, d8, d9, d10, d11, d12, d13, d14, d15, d16, d17, d18, d19, d20, d21, d22, d23]
end Lw
namespace Lw
open PySem Wi Wp Wc
theorem aD_cut1 (ps : List Nat) (h : 0 < ps.length) {i : Int} (hi : i < 0 ∧ -1 ≤ i) : cut (aD ps) none (some i) = aD ps.dropLast := by
  have : i = -1 := by omega
  subst this
  unfold cut bnd
  rw [aD_len, List.dropLast_eq_take]
  show ((aD ps).drop 0).take ((if (-1 : Int) < 0 then (-1 + (ps.length : Int)).toNat else _) - 0) = _
  rw [if_pos (by omega), List.drop_zero, Nat.sub_zero, show (-1 + (ps.length : Int)).toNat = ps.length - 1 by omega, aD_take]
theorem sl_cut1 (ps : List Nat) (h : 0 < ps.length) {i : Int} (hi : i < 0 ∧ -1 ≤ i) : slice (.tuple (aD ps)) none (some i) = some (.v (.tuple (aD ps.dropLast))) := by rw [← aD_cut1 ps h hi]; rfl
theorem aD_cut2 (p : Nat) (ps : List Nat) {i : Int} (hi : 1 ≤ i ∧ i ≤ 1) : cut (aD (p :: ps)) (some i) none = aD ps := by
  have : i = 1 := by omega
  subst this
  rw [cut_from (by omega)]; rfl
theorem sl_cut2 (p : Nat) (ps : List Nat) {i : Int} (hi : 1 ≤ i ∧ i ≤ 1) : slice (.tuple (aD (p :: ps))) (some i) none = some (.v (.tuple (aD ps))) := by rw [← aD_cut2 p ps hi]; rfl
section
variable {F : FE}
theorem worst_ok {ps : List Nat} (h1 : ∀ p ∈ ps, 1 ≤ p) (h30 : ∀ p ∈ ps, p ≤ 30) (h0 : 0 < ps.length) (hl : ps.length ≤ 10) : callD F d9 [.tuple (aD ps)] = some (.v (.tuple (aD (wof ps)))) := by
  have hcut := fun {i : Int} => aD_cut1 ps h0 (i := i)
  have hsl := fun {i : Int} => sl_cut1 ps h0 (i := i)
  have hwl := wof_len ps
  refine Rets.eq (rets_f ?_)
  unfold d9 Wi.start
  refine stp_cons ?_
  conv => arg 5; simp -implicitDefEqProofs
  refine stp_nx.mpr (stp_cons ?_)
  conv => arg 5; simp -implicitDefEqProofs
  refine stp_nx.mpr ?_
  conv => arg 5; simp -implicitDefEqProofs (disch := omega) [hsl, aD_rev]
  have w0 : [PyData.int 0] = aD ((wof ps).drop (ps.length - 1 - 0)).reverse := by
    have hk : ps.length - 1 < (wof ps).length := by omega
    have e : (wof ps).drop (ps.length - 1 - 0) = [gn (wof ps) (ps.length - 1)] := by
      rw [Nat.sub_zero, List.drop_eq_getElem_cons hk, List.drop_of_length_le (by omega)]
      have := gn_get hk
      rw [List.getElem?_eq_getElem hk] at this
      rw [Option.some.inj this]
    have z := wof_int h1 (show ps.length - 1 < ps.length by omega)
    rw [wS_end] at z
    have z : gn (wof ps) (ps.length - 1) = 0 := by
      rw [show -(0 : Int) = 0 by omega, Int.zero_emod] at z; omega
    rw [e, z]; rfl
  refine stp_for (fun k e => ∃ s3 : Sl, k ≤ ps.length - 1 ∧ e = [.v (.tuple (aD ps)), .v (.int (-(wS ps (ps.length - 1 - k)))), .own (aD ((wof ps).drop (ps.length - 1 - k)).reverse), s3]) ⟨_, Nat.zero_le _, by rw [← w0, Nat.sub_zero, wS_end]; rfl⟩ ?_ ?_
  · rintro k x e hk ⟨s3, hk1, rfl⟩
    obtain ⟨p, hp, rfl⟩ := aD_get hk
    have hk2 : k < ps.dropLast.length := by
      have := (List.getElem?_eq_some_iff.mp hp).1
      rw [List.length_reverse] at this; exact this
    rw [List.getElem?_reverse hk2, List.length_dropLast, List.getElem?_dropLast] at hp
    rw [List.length_dropLast] at hk2
    rw [if_pos (by omega)] at hp
    have hj : ps.length - 1 - 1 - k < ps.length := by omega
    rw [gn_get hj] at hp
    have hp := Option.some.inj hp
    have hs := wS_s (ps := ps) (k := ps.length - 1 - 1 - k) (by omega)
    have ho := wof_int h1 hj
    have p1 := gnp h1 hj
    have p2 := h30 _ (List.mem_of_getElem? (gn_get hj))
    have hd : (wof ps).drop (ps.length - 1 - (k + 1)) = gn (wof ps) (ps.length - 1 - 1 - k) :: (wof ps).drop (ps.length - 1 - k) := by
      have hj2 : ps.length - 1 - 1 - k < (wof ps).length := by omega
      rw [show ps.length - 1 - (k + 1) = ps.length - 1 - 1 - k by omega, List.drop_eq_getElem_cons hj2, show ps.length - 1 - 1 - k + 1 = ps.length - 1 - k by omega]
      have := gn_get hj2
      rw [List.getElem?_eq_getElem hj2] at this
      rw [Option.some.inj this]
    have hrev : aD ((wof ps).drop (ps.length - 1 - (k + 1))).reverse = aD ((wof ps).drop (ps.length - 1 - k)).reverse ++ [.int (gn (wof ps) (ps.length - 1 - 1 - k) : Nat)] := by
      rw [hd, List.reverse_cons]
      unfold aD
      rw [List.map_append]; rfl
    have hal : (aD ((wof ps).drop (ps.length - 1 - k)).reverse).length ≤ 10 := by rw [aD_len, List.length_reverse, List.length_drop]; omega
    rw [show ps.length - 1 - 1 - k + 1 = ps.length - 1 - k by omega] at hs
    rw [hrev, show ps.length - 1 - (k + 1) = ps.length - 1 - 1 - k by omega]
    rw [hs] at ho ⊢
    rw [hp] at ho p1 p2 ⊢
    generalize wS ps (ps.length - 1 - k) = w at *
    generalize aD ((wof ps).drop (ps.length - 1 - k)).reverse = L at *
    generalize gn (wof ps) (ps.length - 1 - 1 - k) = o at *
    have hw : -w - ((p : Int) - 1) = -((p : Int) - 1 + w) := by omega
    conv => arg 5; simp -implicitDefEqProofs (disch := omega) [augR_s, hw, o2_mod, ← ho, appG_s]
    exact stp_nx.mpr ⟨_, by omega, rfl⟩
  · rintro e ⟨s3, hk1, rfl⟩
    rw [aD_len, List.length_reverse, List.length_dropLast, Nat.sub_self, List.drop_zero]
    have hb : bF .trev [.list (aD (wof ps).reverse)] = some (.v (.tuple (aD (wof ps)))) := by
      show some (RV.v (.tuple (aD (wof ps).reverse).reverse)) = _
      rw [aD_rev, List.reverse_reverse]
    conv => arg 5; simp -implicitDefEqProofs [hb]
    exact stp_rt.mpr rfl
section
variable {ch : List Sm} (hok : ∀ s ∈ ch, SmOk s) (hl : ch.length ≤ 10)
include hok hl
theorem lsrc_ok (b : Int) : callD F d17 [.tuple (chD ch), .int b] = some (.v (.int (src ch b))) := by
  have hcl := chD_len ch
  refine Rets.eq (rets_f ?_)
  unfold d17 Wi.start
  conv => arg 5; simp -implicitDefEqProofs (disch := omega) [rng1]
  refine stp_rgn ch.length (fun k e => ∃ s2 s3 s4 : Sl, k ≤ ch.length ∧ e = [.v (.tuple (chD ch)), .v (.int (src (ch.drop (ch.length - k)) b)), s2, s3, s4]) (by omega) ⟨_, _, _, Nat.zero_le _, by rw [Nat.sub_zero, List.drop_length]; rfl⟩ ?_ ?_
  · rintro k e hk ⟨s2, s3, s4, hkl, rfl⟩
    have hlt : ch.length - 1 - k < ch.length := by omega
    have ok := hok _ (smp_mem hlt)
    have p1 := ok.p1
    have hn := chD_nth hlt
    have e1 : ch.length - k = ch.length - 1 - k + 1 := by omega
    have e2 : ch.length - (k + 1) = ch.length - 1 - k := by omega
    have hd := src_drop hlt b
    rw [e1, e2, hd]
    have ti : ((ch.length : Int) - 1 - (k : Int)).toNat = ch.length - 1 - k := by omega
    generalize src (ch.drop (ch.length - 1 - k + 1)) b = z
    have ha : z - (z - ((smp ch (ch.length - 1 - k)).o : Int)) % ((smp ch (ch.length - 1 - k)).p : Int) = act (smp ch (ch.length - 1 - k)) z := rfl
    generalize smp ch (ch.length - 1 - k) = s at *
    refine stp_cons ?_
    conv => arg 5; simp -implicitDefEqProofs (disch := omega) [hcl, item_t, ti, hn]
    refine stp_nx.mpr ?_
    conv => arg 5; simp -implicitDefEqProofs (disch := omega) [o2_mod, augR_s, ha]
    exact stp_nx.mpr ⟨_, _, _, by omega, rfl⟩
  · rintro e ⟨s2, s3, s4, hkl, rfl⟩
    rw [Nat.sub_self, List.drop_zero]
    conv => arg 5; simp -implicitDefEqProofs
    exact stp_rt.mpr rfl
end
section
variable {ch : List Sm} (hok : ∀ s ∈ ch, SmOk s) (hn : 0 < ch.length) (hl : ch.length ≤ 10) (hs : spn ch ≤ 100000)
include hok hn
theorem gaI_le2 {q : Nat} (hq2 : spn ch / (smp ch (ch.length - 1)).p = q) (q1 : 1 ≤ q) {M : Int} (h : ∀ k : Nat, k < q → (((smp ch (ch.length - 1)).o : Int) + (k : Int) * (smp ch (ch.length - 1)).p) - src ch (((smp ch (ch.length - 1)).o : Int) + (k : Int) * (smp ch (ch.length - 1)).p) ≤ M) : gaI ch ≤ M := by
  unfold gaI
  rw [hq2]
  have ne : ((List.range q).map fun (k : Nat) => (((smp ch (ch.length - 1)).o : Int) + (k : Int) * (smp ch (ch.length - 1)).p) - src ch (((smp ch (ch.length - 1)).o : Int) + (k : Int) * (smp ch (ch.length - 1)).p)) ≠ [] := fun z => by
    rw [List.map_eq_nil_iff, List.range_eq_nil] at z
    omega
  obtain ⟨k, hk, e⟩ := List.mem_map.mp (mxI_mem _ ne)
  rw [← e]
  exact h k (List.mem_range.mp hk)
theorem gaI_ge2 (k : Int) : (((smp ch (ch.length - 1)).o : Int) + k * (smp ch (ch.length - 1)).p) - src ch (((smp ch (ch.length - 1)).o : Int) + k * (smp ch (ch.length - 1)).p) ≤ gaI ch :=
  gaI_ge hok hn (act_fix (by rw [show ((smp ch (ch.length - 1)).o : Int) + k * (smp ch (ch.length - 1)).p - ((smp ch (ch.length - 1)).o : Int) = k * (smp ch (ch.length - 1)).p by omega, Int.mul_emod_left]))
include hl hs
theorem lage_ok {en : Int} (h15 : F 15 [.tuple (chD ch)] = some (.v (.int (spn ch : Nat)))) (h17 : ∀ b : Int, F 17 [.tuple (chD ch), .int b] = some (.v (.int (src ch b)))) :
    ∃ r : Int, callD F d18 [.tuple (chD ch), .int en] = some (.v (.int r)) ∧ (gaI ch < en → r = gaI ch) ∧ (¬ gaI ch < en → en ≤ r) := by
  suffices H : Rets (callD F d18 [.tuple (chD ch), .int en]) fun v => ∃ r : Int, v = .v (.int r) ∧ (gaI ch < en → r = gaI ch) ∧ (¬ gaI ch < en → en ≤ r) by
    obtain ⟨_, e, r, rfl, a, b⟩ := H
    exact ⟨r, e, a, b⟩
  obtain ⟨q, q1, hq, hq2⟩ := last_div hok hn
  have le2 := fun M => gaI_le2 hok hn hq2 q1 (M := M)
  have ge2 := gaI_ge2 hok hn
  have nn := gaI_nn hok hn
  have hne : chD ch ≠ [] := fun z => by have := chD_len ch; rw [z] at this; simp at this; omega
  have hlast : (chD ch).getLast? = some (.tuple [.int (smp ch (ch.length - 1)).p, .int (smp ch (ch.length - 1)).o]) := by
    rw [List.getLast?_eq_getElem?, chD_len]
    exact chD_nth (by omega)
  have ok := hok _ (smp_mem (show ch.length - 1 < ch.length by omega))
  have hqs : q ≤ spn ch := by rw [hq]; have : 1 * q ≤ (smp ch (ch.length - 1)).p * q := Nat.mul_le_mul_right _ ok.p1; omega
  have hdv : ((spn ch : Nat) : Int) / ((smp ch (ch.length - 1)).p : Int) = (q : Int) := by
    rw [← hq2, Int.natCast_ediv]
  generalize smp ch (ch.length - 1) = s at *
  generalize spn ch = S at *
  have p1 := ok.p1
  have p2 := ok.p2
  have ho := ok.o
  refine rets_f ?_
  unfold d18 Wi.start
  refine stp_cons ?_
  conv => arg 5; simp -implicitDefEqProofs [item_tn hne, hlast]
  refine stp_nx.mpr (stp_cons ?_)
  conv => arg 5; simp -implicitDefEqProofs
  refine stp_nx.mpr ?_
  conv => arg 5; simp -implicitDefEqProofs (disch := omega) [h15, o2_fdiv]
  rw [hdv]
  conv => arg 5; simp -implicitDefEqProofs (disch := omega) [rng1]
  refine stp_rgz q (fun k e => ∃ (g : Int) (s5 s6 : Sl), e = [.v (.tuple (chD ch)), .v (.int en), .v (.int (s.p : Nat)), .v (.int (s.o : Nat)), .v (.int g), s5, s6] ∧ 0 ≤ g ∧ g ≤ gaI ch ∧ (0 < k → g < en) ∧ ∀ i : Nat, i < k → ((s.o : Int) + (i : Int) * s.p) - src ch ((s.o : Int) + (i : Int) * s.p) ≤ g)
    (fun e => ∃ (g : Int) (s5 s6 : Sl), e = [.v (.tuple (chD ch)), .v (.int en), .v (.int (s.p : Nat)), .v (.int (s.o : Nat)), .v (.int g), s5, s6] ∧ (gaI ch < en → g = gaI ch) ∧ (¬ gaI ch < en → en ≤ g)) (by omega)
    ⟨0, _, _, rfl, by omega, nn, fun h => by omega, fun i hi => by omega⟩ ?_ ?_ ?_
  · rintro k e hk ⟨g, s5, s6, rfl, g0, g1, g2, g3⟩
    have ga := ge2 (k : Int)
    rw [Int.zero_add]
    have h17 := h17 ((s.o : Int) + (k : Int) * s.p)
    generalize hx : ((s.o : Int) + (k : Int) * s.p) - src ch ((s.o : Int) + (k : Int) * s.p) = x at *
    by_cases z : en ≤ max g x
    · conv => arg 5; simp -implicitDefEqProofs (disch := omega) [o2_mul, h17, hx, z]
      exact stp_bk.mpr ⟨_, _, _, rfl, fun h => by omega, fun _ => z⟩
    · conv => arg 5; simp -implicitDefEqProofs (disch := omega) [o2_mul, h17, hx, z]
      refine stp_nx.mpr ⟨_, _, _, rfl, by omega, by omega, fun _ => by omega, fun i hi => ?_⟩
      by_cases w : i = k
      · subst w; omega
      · have := g3 i (by omega); omega
  · rintro e ⟨g, s5, s6, rfl, g0, g1, g2, g3⟩
    have := le2 g fun k hk => g3 k hk
    have := g2 (by omega)
    exact ⟨g, _, _, rfl, fun _ => by omega, fun h => by omega⟩
  · rintro e ⟨g, s5, s6, rfl, g1, g2⟩
    conv => arg 5; simp -implicitDefEqProofs
    exact stp_rt.mpr ⟨g, rfl, g1, g2⟩
theorem below_ok {en : Int} (h6 : F 6 [.tuple (chD ch)] = some (.l (iD ((List.range (spn ch / (smp ch (ch.length - 1)).p)).map fun (k : Nat) => ((smp ch (ch.length - 1)).o : Int) + (k : Int) * (smp ch (ch.length - 1)).p)))) (h5 : ∀ b : Int, F 5 [.tuple (chD ch), .int b] = some (.v (.int (src ch b)))) :
    callD F d10 [.tuple (chD ch), .int en] = some (.v (if gaI ch < en then .int (gaI ch) else .none)) := by
  obtain ⟨q, q1, hq, hq2⟩ := last_div hok hn
  have le2 := fun M => gaI_le2 hok hn hq2 q1 (M := M)
  have ge2 := gaI_ge2 hok hn
  have nn := gaI_nn hok hn
  rw [hq2] at h6
  generalize smp ch (ch.length - 1) = s at *
  generalize spn ch = S at *
  refine Rets.eq (rets_f ?_)
  unfold d10 Wi.start
  refine stp_cons ?_
  conv => arg 5; simp -implicitDefEqProofs
  refine stp_nx.mpr ?_
  conv => arg 5; simp -implicitDefEqProofs [h6]
  have hL : ∀ (k : Nat) (x : D), (iD ((List.range q).map fun (k : Nat) => (s.o : Int) + (k : Int) * (s.p : Int)))[k]? = some x → k < q ∧ x = .int ((s.o : Int) + (k : Int) * s.p) := fun k x h => by
    unfold iD at h
    rw [List.map_map] at h
    have hk : k < q := by
      have := (List.getElem?_eq_some_iff.mp h).1
      simpa using this
    rw [List.getElem?_map, List.getElem?_range hk] at h
    exact ⟨hk, (Option.some.inj h).symm⟩
  have hLl : (iD ((List.range q).map fun (k : Nat) => (s.o : Int) + (k : Int) * (s.p : Int))).length = q := by unfold iD; simp
  generalize iD ((List.range q).map fun (k : Nat) => (s.o : Int) + (k : Int) * (s.p : Int)) = L at *
  refine stp_for (fun k e => ∃ (g : Int) (s3 s4 : Sl), e = [.v (.tuple (chD ch)), .v (.int en), .v (.int g), s3, s4] ∧ 0 ≤ g ∧ g ≤ gaI ch ∧ ∀ i : Nat, i < k → ((s.o : Int) + (i : Int) * s.p) - src ch ((s.o : Int) + (i : Int) * s.p) ≤ g ∧ ((s.o : Int) + (i : Int) * s.p) - src ch ((s.o : Int) + (i : Int) * s.p) < en)
    ⟨0, _, _, rfl, by omega, nn, fun i hi => by omega⟩ ?_ ?_
  · rintro k x e hk ⟨g, s3, s4, rfl, g0, g1, g3⟩
    obtain ⟨hk, rfl⟩ := hL k x hk
    have ga := ge2 (k : Int)
    refine stp_cons ?_
    conv => arg 5; simp -implicitDefEqProofs [h5]
    refine stp_nx.mpr (stp_cons ?_)
    generalize hx : ((s.o : Int) + (k : Int) * s.p) - src ch ((s.o : Int) + (k : Int) * s.p) = x at *
    by_cases z : en ≤ x
    · conv => arg 5; simp -implicitDefEqProofs [z]
      exact stp_rt.mpr (by rw [if_neg (by omega)])
    · conv => arg 5; simp -implicitDefEqProofs [z]
      refine stp_nx.mpr ?_
      conv => arg 5; simp -implicitDefEqProofs
      refine stp_nx.mpr ⟨_, _, _, rfl, by omega, by omega, fun i hi => ?_⟩
      by_cases w : i = k
      · subst w; omega
      · have := g3 i (by omega); omega
  · rintro e ⟨g, s3, s4, rfl, g0, g1, g3⟩
    rw [hLl] at g3
    have := le2 g fun k hk => (g3 k hk).1
    have := le2 (en - 1) fun k hk => by have := (g3 k hk).2; omega
    have eg : g = gaI ch := by omega
    conv => arg 5; simp -implicitDefEqProofs
    exact stp_rt.mpr (by rw [if_pos (by omega), eg])
end
theorem lwith_ok {ps os : List Nat} (h : os.length = ps.length) (hl : ps.length ≤ 10) : callD F d20 [.tuple (aD ps), .tuple (aD os)] = some (.v (.tuple (chD (mkc ps os)))) := by
  refine Rets.eq (rets_f ?_)
  unfold d20 Wi.start
  have hg : ∀ (xs : List Nat) (k : Nat), k < xs.length → nth (aD xs) k = some (.int (gn xs k : Nat)) := fun xs k hk => by
    unfold nth aD
    rw [List.getElem?_map, gn_get hk]; rfl
  conv => arg 5; simp -implicitDefEqProofs (disch := omega) [rng1, aD_len]
  rw [comp_rg (fun (k : Nat) => .tuple [.int (gn ps k : Nat), .int (gn os k : Nat)]) (by omega) fun k hk => by
    have h1 := hg ps k (by omega)
    have h2 := hg os k (by omega)
    simp -implicitDefEqProofs (disch := omega) [item_t, h1, h2]]
  have e : (List.range ps.length).map (fun (k : Nat) => PyData.tuple [.int (gn ps k : Nat), .int (gn os k : Nat)]) = chD (mkc ps os) := by
    have hlen := mkc_len h
    apply List.ext_getElem?
    intro k
    by_cases hk : k < ps.length
    · have := chD_nth (ch := mkc ps os) (k := k) (by omega)
      unfold nth at this
      rw [this, mkc_smp h hk, List.getElem?_map, List.getElem?_range (by omega)]; rfl
    · rw [List.getElem?_eq_none (by simp; omega), List.getElem?_eq_none (by rw [chD_len]; omega)]
  rw [e]
  conv => arg 5; simp -implicitDefEqProofs
  exact stp_rt.mpr rfl
def rowD (rs : List (List Nat)) : List D := rs.map fun r => .tuple (aD r)
theorem rowD_get {rs : List (List Nat)} {k : Nat} {x : D} (h : (rowD rs)[k]? = some x) : ∃ r, rs[k]? = some r ∧ x = .tuple (aD r) := by
  unfold rowD at h
  rw [List.getElem?_map] at h
  obtain ⟨r, h1, rfl⟩ := Option.map_eq_some_iff.mp h
  exact ⟨r, h1, rfl⟩
theorem rowD_len (rs : List (List Nat)) : (rowD rs).length = rs.length := by unfold rowD; simp
theorem noLs_row : ∀ rs : List (List Nat), noLs (rowD rs) = true := fun rs => by
  have ha : ∀ xs : List Nat, noLs (aD xs) = true := fun xs => by
    induction xs with
    | nil => rfl
    | cons x r ih => exact ih
  induction rs with
  | nil => rfl
  | cons x r ih =>
    show (noLs (aD x) && noLs (rowD r)) = true
    rw [ha, ih]; rfl
theorem aD_snoc (r : List Nat) (o : Nat) : aD r ++ [.int (o : Nat)] = aD (r ++ [o]) := by unfold aD; rw [List.map_append]; rfl
theorem rowD_ext (x : List Nat) (rs : List (List Nat)) (p : Nat) : rowD (extR (x :: rs) p) = ((List.range p).map fun (o : Nat) => PyData.tuple (aD (x ++ [o]))) ++ rowD (extR rs p) := by
  unfold extR rowD
  rw [List.flatMap_cons, List.map_append, List.map_map]; rfl
theorem cat_rows {f : D → Option (List D)} {p : Nat} : ∀ {rs : List (List Nat)}, (∀ r ∈ rs, f (.tuple (aD r)) = some ((List.range p).map fun (o : Nat) => PyData.tuple (aD (r ++ [o])))) → catL f (rowD rs) = some (rowD (extR rs p))
  | [], _ => rfl
  | x :: rs, h => by
    rw [rowD_ext]
    show (f (.tuple (aD x))).bind _ = _
    rw [h x List.mem_cons_self, Option.bind_some]
    show (catL f (rowD rs)).map _ = _
    rw [cat_rows fun r hr => h r (List.mem_cons_of_mem _ hr)]; rfl
theorem comp2_rows {f : D → Option (List D)} {p : Nat} {rs : List (List Nat)} (hl : rs.length ≤ 1000) (hl2 : rs.length * p ≤ 100000) (h : ∀ r ∈ rs, f (.tuple (aD r)) = some ((List.range p).map fun (o : Nat) => PyData.tuple (aD (r ++ [o])))) : comp2R f (some (rowD rs)) = some (.l (rowD (extR rs p))) := by
  show (if (rowD rs).length ≤ LIM then (catL f (rowD rs)).bind fun fin => if fin.length ≤ LIM then some (RV.l fin) else none else none) = _
  rw [if_pos (by rw [rowD_len]; unfold LIM; omega), cat_rows h, Option.bind_some, if_pos (by rw [rowD_len, ext_len]; unfold LIM; omega)]
theorem rngS_n {p : Nat} (h : p ≤ 1000) : rngS [.int (p : Nat)] = some (rg 0 p) := by
  show (if ((p : Nat) : Int).natAbs < 2 ^ 62 then some (rg 0 ((p : Nat) : Int).toNat) else none) = _
  rw [if_pos (by omega), Int.toNat_natCast]
def sumN (few : List Nat) : Int := (few.map Int.ofNat).sum
theorem b_sumN (few : List Nat) : bF .sum [.tuple (aD few)] = some (.v (.int (sumN few))) := by rw [aD_iD, b_sumt]; rfl
def bestR (few : List Nat) : List Nat × Int := (rowsK few.tail few.tail.length).foldl (stB fun r => gaI (mkc few r)) (List.replicate few.length 0, sumN few)
theorem foldl_take_s {α β : Type} (f : α → β → α) (a : α) {xs : List β} {k : Nat} {x : β} (h : xs[k]? = some x) : (xs.take (k + 1)).foldl f a = f ((xs.take k).foldl f a) x := by
  rw [List.take_add_one, h, List.foldl_append]; rfl
section
variable {p0 : Nat} {ps : List Nat} (h1 : ∀ p ∈ p0 :: ps, 1 ≤ p) (h30 : ∀ p ∈ p0 :: ps, p ≤ 30) (h4 : ps.length ≤ 5) (h500 : prd (p0 :: ps) ≤ 500)
include h1 h30 h4 h500
theorem rows_few {k : Nat} (hk : k ≤ ps.length) : (rowsK ps k).length ≤ 500 := by
  rw [rowsK_len hk]
  have e := prd_app (ps.take k) (ps.drop k)
  rw [List.take_append_drop] at e
  have p1 := prd_pos (ps := ps.drop k) fun p hp => h1 p (List.mem_cons_of_mem _ (List.mem_of_mem_drop hp))
  have p2 := h1 p0 List.mem_cons_self
  have m1 : prd (ps.take k) * 1 ≤ prd (ps.take k) * prd (ps.drop k) := Nat.mul_le_mul_left _ p1
  have m2 : 1 * prd ps ≤ p0 * prd ps := Nat.mul_le_mul_right _ p2
  have e2 : prd (p0 :: ps) = p0 * prd ps := rfl
  omega
theorem best_ok (h10 : ∀ r ∈ rowsK ps ps.length, ∀ en : Int, F 10 [.tuple (chD (mkc (p0 :: ps) r)), .int en] = some (.v (if gaI (mkc (p0 :: ps) r) < en then .int (gaI (mkc (p0 :: ps) r)) else .none))) :
    callD F d11 [.tuple (aD (p0 :: ps))] = some (.v (.tuple (aD (bestR (p0 :: ps)).1))) := by
  have hcut := fun {i : Int} => aD_cut2 p0 ps (i := i)
  have hsl := fun {i : Int} => sl_cut2 p0 ps (i := i)
  have hsum := b_sumN (p0 :: ps)
  have hps1 : ∀ p ∈ ps, 1 ≤ p := fun p hp => h1 p (List.mem_cons_of_mem _ hp)
  obtain ⟨rest, hrest⟩ := rowsK_head hps1 (Nat.le_refl ps.length)
  have hmany := fun {k : Nat} => rows_few h1 h30 h4 h500 (k := k)
  have hb : bestR (p0 :: ps) = (rowsK ps ps.length).foldl (stB fun r => gaI (mkc (p0 :: ps) r)) (List.replicate (ps.length + 1) 0, sumN (p0 :: ps)) := rfl
  rw [hb]
  refine Rets.eq (rets_f ?_)
  unfold d11 Wi.start
  refine stp_cons ?_
  conv => arg 5; simp -implicitDefEqProofs
  refine stp_nx.mpr ?_
  conv => arg 5; simp -implicitDefEqProofs (disch := omega) [hsl]
  generalize hfew : aD (p0 :: ps) = fewD at *
  refine stp_for (fun k e => ∃ (s2 s3 s7 : Sl), k ≤ ps.length ∧ e = [.v (.tuple fewD), .own (rowD (rowsK ps k)), s2, s3, .no, .no, .no, s7]) ⟨_, _, _, Nat.zero_le _, rfl⟩ ?_ ?_
  · rintro k0 x e hk ⟨s2, s3, s7, hk1, rfl⟩
    obtain ⟨p, hp, rfl⟩ := aD_get hk
    have hlt : k0 < ps.length := (List.getElem?_eq_some_iff.mp hp).1
    rw [gn_get hlt] at hp
    have hp := Option.some.inj hp
    have hm := hmany (k := k0) (by omega)
    have hm2 := hmany (k := k0 + 1) (by omega)
    have p30 := h30 p (by rw [← hp]; exact List.mem_cons_of_mem _ (List.mem_of_getElem? (gn_get hlt)))
    rw [rowsK_s hlt, hp] at hm2 ⊢
    rw [ext_len] at hm2
    have hmem := fun r hr => (rowsK_mem (show k0 ≤ ps.length by omega) r hr).1
    generalize rowsK ps k0 = rs at *
    conv => arg 5; simp -implicitDefEqProofs
    rw [comp2_rows (p := p) (by omega) (by omega) fun r hr => by
      unfold cat2F
      have hcl := fun (f : D → Option (Option D)) (h : ∀ k : Nat, k < p → f (.int (0 + k)) = some (some (PyData.tuple (aD (r ++ [k]))))) => compL_rg (f := f) (g := fun o => PyData.tuple (aD (r ++ [o]))) 0 p h
      simp -implicitDefEqProofs [rngS_n (p := p) (by omega)]
      refine ⟨by rw [rg_len]; unfold LIM; omega, hcl _ fun k hk => ?_⟩
      have hrl : r.length ≤ 10 := by
        have := hmem r hr
        omega
      simp -implicitDefEqProofs (disch := first | omega | (simp [aD_len]; omega)) [add_t, aD_snoc]]
    have hna := fun (env : En) => after_noL (l := [7]) (env := env) (r := .l (rowD (extR rs p))) (noLs_row (extR rs p))
    conv => arg 5; simp -implicitDefEqProofs [hna]
    exact stp_nx.mpr ⟨_, _, _, by omega, rfl⟩
  · rintro e ⟨s2, s3, s7, hk1, rfl⟩
    rw [aD_len]
    have hh : nth (rowD (rowsK ps ps.length)) 0 = some (.tuple (aD (List.replicate (ps.length + 1) 0))) := by
      unfold nth rowD
      rw [hrest]; rfl
    refine stp_cons ?_
    conv => arg 5; simp -implicitDefEqProofs (disch := omega) [item_l, hh]
    refine stp_nx.mpr (stp_cons ?_)
    conv => arg 5; simp -implicitDefEqProofs [hsum]
    refine stp_nx.mpr ?_
    conv => arg 5; simp -implicitDefEqProofs
    refine stp_for (fun k e => ∃ (s2 s3 s6 s7 : Sl), e = [.v (.tuple fewD), .v (.list (rowD (rowsK ps ps.length))), s2, s3, .v (.tuple (aD (((rowsK ps ps.length).take k).foldl (stB fun r => gaI (mkc (p0 :: ps) r)) (List.replicate (ps.length + 1) 0, sumN (p0 :: ps))).1)), .v (.int (((rowsK ps ps.length).take k).foldl (stB fun r => gaI (mkc (p0 :: ps) r)) (List.replicate (ps.length + 1) 0, sumN (p0 :: ps))).2), s6, s7]) ⟨_, _, _, _, rfl⟩ ?_ ?_
    · rintro k x e hk ⟨s2, s3, s6, s7, rfl⟩
      obtain ⟨r, hr, rfl⟩ := rowD_get hk
      have hz := b_tzip (ps := p0 :: ps) (os := r)
      rw [hfew] at hz
      have hF := h10 r (List.mem_of_getElem? hr)
      rw [foldl_take_s _ _ hr]
      generalize ((rowsK ps ps.length).take k).foldl (stB fun r => gaI (mkc (p0 :: ps) r)) (List.replicate (ps.length + 1) 0, sumN (p0 :: ps)) = st at *
      obtain ⟨b, l⟩ := st
      have hF := hF l
      unfold stB
      by_cases z : gaI (mkc (p0 :: ps) r) < l
      · rw [if_pos z] at hF ⊢
        refine stp_cons ?_
        conv => arg 5; simp -implicitDefEqProofs [hz, hF]
        refine stp_nx.mpr ?_
        conv => arg 5; simp -implicitDefEqProofs
        exact stp_nx.mpr ⟨_, _, _, _, rfl⟩
      · rw [if_neg z] at hF ⊢
        refine stp_cons ?_
        conv => arg 5; simp -implicitDefEqProofs [hz, hF]
        refine stp_nx.mpr ?_
        conv => arg 5; simp -implicitDefEqProofs
        exact stp_nx.mpr ⟨_, _, _, _, rfl⟩
    · rintro e ⟨s2, s3, s6, s7, rfl⟩
      rw [rowD_len, List.take_length]
      conv => arg 5; simp -implicitDefEqProofs
      exact stp_rt.mpr rfl
theorem lbest_ok (h18 : ∀ r ∈ rowsK ps ps.length, ∀ en : Int, ∃ x : Int, F 18 [.tuple (chD (mkc (p0 :: ps) r)), .int en] = some (.v (.int x)) ∧ (gaI (mkc (p0 :: ps) r) < en → x = gaI (mkc (p0 :: ps) r)) ∧ (¬ gaI (mkc (p0 :: ps) r) < en → en ≤ x)) (h20 : ∀ r ∈ rowsK ps ps.length, F 20 [.tuple (aD (p0 :: ps)), .tuple (aD r)] = some (.v (.tuple (chD (mkc (p0 :: ps) r))))) :
    callD F d21 [.tuple (aD (p0 :: ps))] = some (.v (.tuple [.tuple (aD (bestR (p0 :: ps)).1), .int (bestR (p0 :: ps)).2])) := by
  have hsl := fun {i : Int} => sl_cut2 p0 ps (i := i)
  have hsum := b_sumN (p0 :: ps)
  have hps1 : ∀ p ∈ ps, 1 ≤ p := fun p hp => h1 p (List.mem_cons_of_mem _ hp)
  obtain ⟨rest, hrest⟩ := rowsK_head hps1 (Nat.le_refl ps.length)
  have hmany := fun {k : Nat} => rows_few h1 h30 h4 h500 (k := k)
  have hb : bestR (p0 :: ps) = (rowsK ps ps.length).foldl (stB fun r => gaI (mkc (p0 :: ps) r)) (List.replicate (ps.length + 1) 0, sumN (p0 :: ps)) := rfl
  rw [hb]
  refine Rets.eq (rets_f ?_)
  unfold d21 Wi.start
  refine stp_cons ?_
  conv => arg 5; simp -implicitDefEqProofs
  refine stp_nx.mpr ?_
  conv => arg 5; simp -implicitDefEqProofs (disch := omega) [hsl]
  generalize hfew : aD (p0 :: ps) = fewD at *
  have hav : ∀ (xs : List D) (l : List Nat) (env : En), after (.v (.list xs)) l env = demote env l := fun xs l env => by cases l <;> rfl
  refine stp_for (fun k e => ∃ (s1 s2 s3 s4 : Sl), k ≤ ps.length ∧ e = [.v (.tuple fewD), s1, s2, s3, s4, .no, .no, .no, .no, .no] ∧ (s1 = .own (rowD (rowsK ps k)) ∨ s1 = .v (.list (rowD (rowsK ps k))))) ⟨_, _, _, _, Nat.zero_le _, rfl, .inl rfl⟩ ?_ ?_
  · rintro k0 x e hk ⟨s1, s2, s3, s4, hk1, rfl, hs1⟩
    obtain ⟨p, hp, rfl⟩ := aD_get hk
    have hlt : k0 < ps.length := (List.getElem?_eq_some_iff.mp hp).1
    rw [gn_get hlt] at hp
    have hp := Option.some.inj hp
    have hm := hmany (k := k0) (by omega)
    have hm2 := hmany (k := k0 + 1) (by omega)
    have p30 := h30 p (by rw [← hp]; exact List.mem_cons_of_mem _ (List.mem_of_getElem? (gn_get hlt)))
    rw [rowsK_s hlt, hp] at hm2 ⊢
    have hmem := fun r hr => (rowsK_mem (show k0 ≤ ps.length by omega) r hr).1
    generalize rowsK ps k0 = rs at *
    rw [ext_len] at hm2
    have body : Stp (fun e => ∃ s3 s4 : Sl, e = [.v (.tuple fewD), .v (.list (rowD (extR rs p))), .v (.int p), s3, s4, .no, .no, .no, .no, .no]) (fun _ => False) (fun _ => False) (fun _ => False) (seqR (forL (loopF (.n 4) F [.ext 3 (.comp (.bin .add (.var 4) (.tup [.var 9])) (.n 9) .rng [.var 2] [9] none)]) (rowD rs) [.v (.tuple fewD), .v (.list (rowD rs)), .v (.int p), .own [], s4, .no, .no, .no, .no, .no]) (dnSs F [.asg 1 (.var 3)])) := by
     refine stp_for (fun j e => ∃ s4 : Sl, j ≤ rs.length ∧ e = [.v (.tuple fewD), .v (.list (rowD rs)), .v (.int p), .own (rowD (extR (rs.take j) p)), s4, .no, .no, .no, .no, .no]) ⟨_, Nat.zero_le _, rfl⟩ ?_ ?_
     · rintro j x e hk ⟨s4, hj, rfl⟩
       obtain ⟨r, hr, rfl⟩ := rowD_get hk
       have hlt := (List.getElem?_eq_some_iff.mp hr).1
       have hrl := hmem r (List.mem_of_getElem? hr)
       have hst : rowD (extR (rs.take (j + 1)) p) = rowD (extR (rs.take j) p) ++ (List.range p).map fun (o : Nat) => PyData.tuple (aD (r ++ [o])) := by
         unfold extR rowD
         rw [List.take_add_one, hr, List.flatMap_append, List.map_append]
         simp [List.map_map, Function.comp_def]
       have hlen : (rowD (extR (rs.take j) p)).length ≤ 500 := by
         rw [rowD_len, ext_len, List.length_take]
         have : min j rs.length * p ≤ rs.length * p := Nat.mul_le_mul_right _ (by omega)
         omega
       rw [hst]
       generalize rowD (extR (rs.take j) p) = L at *
       conv => arg 5; simp -implicitDefEqProofs (disch := omega) [rng1]
       rw [comp_rg (fun (o : Nat) => PyData.tuple (aD (r ++ [o]))) (by omega) fun k hk => by
         simp -implicitDefEqProofs (disch := first | omega | (simp [aD_len]; omega)) [add_t, aD_snoc]]
       conv => arg 5; simp -implicitDefEqProofs (disch := first | omega | (simp; omega)) [extG_s]
       exact stp_nx.mpr ⟨_, by omega, rfl⟩
     · rintro e ⟨s4, hj, rfl⟩
       rw [rowD_len, List.take_length]
       conv => arg 5; simp -implicitDefEqProofs [hav]
       exact stp_nx.mpr ⟨_, _, rfl⟩
    have fin : Stp (fun e => ∃ (s1 s2 s3 s4 : Sl), k0 + 1 ≤ ps.length ∧ e = [.v (.tuple fewD), s1, s2, s3, s4, .no, .no, .no, .no, .no] ∧ (s1 = .own (rowD (extR rs p)) ∨ s1 = .v (.list (rowD (extR rs p))))) (fun _ => False) (fun _ => False) (fun _ => False) (seqR (forL (loopF (.n 4) F [.ext 3 (.comp (.bin .add (.var 4) (.tup [.var 9])) (.n 9) .rng [.var 2] [9] none)]) (rowD rs) [.v (.tuple fewD), .v (.list (rowD rs)), .v (.int p), .own [], s4, .no, .no, .no, .no, .no]) (dnSs F [.asg 1 (.var 3)])) :=
      body.mono (fun e ⟨s3, s4, h⟩ => ⟨_, _, _, _, by omega, h, .inr rfl⟩) (fun _ h => h) (fun _ h => h) fun _ h => h
    rcases hs1 with rfl | rfl
    · conv => arg 5; simp -implicitDefEqProofs
      exact fin.mono (fun _ h => h) (fun _ h => h.elim) (fun _ h => h.elim) fun _ h => h.elim
    · conv => arg 5; simp -implicitDefEqProofs
      exact fin.mono (fun _ h => h) (fun _ h => h.elim) (fun _ h => h.elim) fun _ h => h.elim
  · rintro e ⟨s1, s2, s3, s4, hk1, rfl, hs1⟩
    rw [aD_len] at hs1
    have hh : nth (rowD (rowsK ps ps.length)) 0 = some (.tuple (aD (List.replicate (ps.length + 1) 0))) := by
      unfold nth rowD
      rw [hrest]; rfl
    have go : Stp (fun _ => False) (fun x => x = .v (.tuple [.tuple (aD ((rowsK ps ps.length).foldl (stB fun r => gaI (mkc (p0 :: ps) r)) (List.replicate (ps.length + 1) 0, sumN (p0 :: ps))).1), .int ((rowsK ps ps.length).foldl (stB fun r => gaI (mkc (p0 :: ps) r)) (List.replicate (ps.length + 1) 0, sumN (p0 :: ps))).2])) (fun _ => False) (fun _ => False)
        (seqR (forL (loopF (.n 7) F [.asg 8 (.call 18 [.call 20 [.var 0, .var 7], .var 6]), .ite (.cmp .lt (.var 8) (.var 6)) [.asg 6 (.var 8), .asg 5 (.var 7)] []]) (rowD (rowsK ps ps.length)) [.v (.tuple fewD), .v (.list (rowD (rowsK ps ps.length))), s2, s3, s4, .v (.tuple (aD (List.replicate (ps.length + 1) 0))), .v (.int (sumN (p0 :: ps))), .no, .no, .no]) (dnSs F [.ret (.tup [.var 5, .var 6])])) := by
      refine stp_for (fun k e => ∃ (s2 s3 s4 s7 s8 : Sl), e = [.v (.tuple fewD), .v (.list (rowD (rowsK ps ps.length))), s2, s3, s4, .v (.tuple (aD (((rowsK ps ps.length).take k).foldl (stB fun r => gaI (mkc (p0 :: ps) r)) (List.replicate (ps.length + 1) 0, sumN (p0 :: ps))).1)), .v (.int (((rowsK ps ps.length).take k).foldl (stB fun r => gaI (mkc (p0 :: ps) r)) (List.replicate (ps.length + 1) 0, sumN (p0 :: ps))).2), s7, s8, .no]) ⟨_, _, _, _, _, rfl⟩ ?_ ?_
      · rintro k x e hk ⟨s2, s3, s4, s7, s8, rfl⟩
        obtain ⟨r, hr, rfl⟩ := rowD_get hk
        have hz := h20 r (List.mem_of_getElem? hr)
        have hF := h18 r (List.mem_of_getElem? hr)
        rw [foldl_take_s _ _ hr]
        generalize ((rowsK ps ps.length).take k).foldl (stB fun r => gaI (mkc (p0 :: ps) r)) (List.replicate (ps.length + 1) 0, sumN (p0 :: ps)) = st at *
        obtain ⟨b, l⟩ := st
        obtain ⟨x, hF, g1, g2⟩ := hF l
        unfold stB
        by_cases z : gaI (mkc (p0 :: ps) r) < l
        · rw [if_pos z]
          have ex := g1 z
          have zx : x < l := by omega
          refine stp_cons ?_
          conv => arg 5; simp -implicitDefEqProofs [hz, hF]
          refine stp_nx.mpr ?_
          conv => arg 5; simp -implicitDefEqProofs [zx]
          rw [ex]
          exact stp_nx.mpr ⟨_, _, _, _, _, rfl⟩
        · rw [if_neg z]
          have zx : ¬ x < l := by have := g2 z; omega
          refine stp_cons ?_
          conv => arg 5; simp -implicitDefEqProofs [hz, hF]
          refine stp_nx.mpr ?_
          conv => arg 5; simp -implicitDefEqProofs [zx]
          exact stp_nx.mpr ⟨_, _, _, _, _, rfl⟩
      · rintro e ⟨s2, s3, s4, s7, s8, rfl⟩
        rw [rowD_len, List.take_length]
        conv => arg 5; simp -implicitDefEqProofs
        exact stp_rt.mpr rfl
    rcases hs1 with rfl | rfl
    · refine stp_cons ?_
      conv => arg 5; simp -implicitDefEqProofs (disch := omega) [item_l, hh]
      refine stp_nx.mpr (stp_cons ?_)
      conv => arg 5; simp -implicitDefEqProofs [hsum]
      refine stp_nx.mpr ?_
      conv => arg 5; simp -implicitDefEqProofs
      exact go
    · refine stp_cons ?_
      conv => arg 5; simp -implicitDefEqProofs (disch := omega) [item_l, hh]
      refine stp_nx.mpr (stp_cons ?_)
      conv => arg 5; simp -implicitDefEqProofs [hsum]
      refine stp_nx.mpr ?_
      conv => arg 5; simp -implicitDefEqProofs
      exact go
end
theorem periods_ok {row : List Int} {c : Nat → Int} {K : Nat} (hc : ∀ k, k < K → nth row k = some (c k)) (hb : ∀ k, 0 ≤ c k ∧ c k < 1000003) {a : Nat} (ha : a + 8 ≤ K) (hK : K ≤ 1000) :
    ∃ ps : List Nat, callD F d22 [.list (iD row), .int a] = some (.v (.tuple (aD ps))) ∧ 1 ≤ ps.length ∧ ps.length ≤ 4 ∧ (∀ p ∈ ps, 1 ≤ p ∧ p ≤ 30) ∧ prd ps ≤ 500 := by
  suffices H : Rets (callD F d22 [.list (iD row), .int a]) fun v => ∃ ps : List Nat, v = .v (.tuple (aD ps)) ∧ 1 ≤ ps.length ∧ ps.length ≤ 4 ∧ (∀ p ∈ ps, 1 ≤ p ∧ p ≤ 30) ∧ prd ps ≤ 500 by
    obtain ⟨_, e, ps, rfl, h⟩ := H
    exact ⟨ps, e, h⟩
  have c0 := hc a (by omega)
  have c1 := hc (a + 1) (by omega)
  have c6 := hc (a + 6) (by omega)
  have c7 := hc (a + 7) (by omega)
  have b0 := hb a
  have b1 := hb (a + 1)
  have b6 := hb (a + 6)
  have b7 := hb (a + 7)
  have t0 : ((a : Int)).toNat = a := by omega
  have t1 : ((a : Int) + 1).toNat = a + 1 := by omega
  have t6 : ((a : Int) + 6).toNat = a + 6 := by omega
  have t7 : ((a : Int) + 7).toNat = a + 7 := by omega
  obtain ⟨m, hm, hmm⟩ := pick [40, 40, 500] (i := c a % 3) (by omega) (by simp; omega)
  have hm : nth [PyData.int 40, .int 40, .int 500] (c a % 3).toNat = some (.int m) := hm
  have hm1 : 40 ≤ m ∧ m ≤ 500 := by simp at hmm; omega
  obtain ⟨tz, htz, htzm⟩ := pick [8, 30] (i := c (a + 6) % 2) (by omega) (by simp; omega)
  have htz : nth [PyData.int 8, .int 30] (c (a + 6) % 2).toNat = some (.int tz) := htz
  have htz1 : 8 ≤ tz ∧ tz ≤ 30 := by simp at htzm; omega
  obtain ⟨n, hn⟩ : ∃ n : Nat, (n : Int) = 1 + c (a + 1) % 4 := ⟨(1 + c (a + 1) % 4).toNat, by omega⟩
  refine rets_f ?_
  unfold d22 Wi.start
  refine stp_cons ?_
  conv => arg 5; simp -implicitDefEqProofs (disch := omega) [item_l, t0, c0, o2_mod, item_t, hm]
  refine stp_nx.mpr (stp_cons ?_)
  conv => arg 5; simp -implicitDefEqProofs
  refine stp_nx.mpr (stp_cons ?_)
  conv => arg 5; simp -implicitDefEqProofs
  refine stp_nx.mpr ?_
  conv => arg 5; simp -implicitDefEqProofs (disch := omega) [item_l, t1, c1, o2_mod, ← hn, rng1]
  refine stp_rgn n (fun k e => ∃ (ps : List Nat) (s5 s6 : Sl), e = [.v (.list (iD row)), .v (.int a), .v (.int m), .own (aD ps), .v (.int (prd ps : Nat)), s5, s6, .no] ∧ ps.length = k ∧ (∀ p ∈ ps, 1 ≤ p ∧ p ≤ 30) ∧ (prd ps : Int) ≤ m) (by omega)
    ⟨[], _, _, rfl, rfl, (fun p h => by cases h), by show ((1 : Nat) : Int) ≤ m; omega⟩ ?_ ?_
  · rintro k e hk ⟨ps, s5, s6, rfl, hl, hp, hle⟩
    have u2 : ((a : Int) + 2 + (k : Int)).toNat = a + 2 + k := by omega
    have d2 := hc (a + 2 + k) (by omega)
    have e2 := hb (a + 2 + k)
    have r0 := Int.emod_nonneg (c (a + 2 + k)) (show tz ≠ 0 by omega)
    have r1 := Int.emod_lt_of_pos (c (a + 2 + k)) (show 0 < tz by omega)
    obtain ⟨P, hP⟩ : ∃ P : Nat, (P : Int) = 1 + c (a + 2 + k) % tz := ⟨(1 + c (a + 2 + k) % tz).toNat, by omega⟩
    have q1 := prd_pos fun p h => (hp p h).1
    have hal : (aD ps).length = k := by rw [aD_len, hl]
    -- the period in use
    have fin : ∀ P : Nat, 1 ≤ P → (prd ps * P : Nat) ≤ m → P ≤ 500 → ∀ s5 : Sl, Stp (fun e => ∃ (ps : List Nat) (s5 s6 : Sl), e = [.v (.list (iD row)), .v (.int a), .v (.int m), .own (aD ps), .v (.int (prd ps : Nat)), s5, s6, .no] ∧ ps.length = k + 1 ∧ (∀ p ∈ ps, 1 ≤ p ∧ p ≤ 30) ∧ (prd ps : Int) ≤ m) (fun v => ∃ ps : List Nat, v = .v (.tuple (aD ps)) ∧ 1 ≤ ps.length ∧ ps.length ≤ 4 ∧ (∀ p ∈ ps, 1 ≤ p ∧ p ≤ 30) ∧ prd ps ≤ 500) (fun _ => False) (fun _ => False)
        (dnSs F [.app 3 (.bi .mn [(.var 6), (.lit (.int 30))]), .asg 4 (.bin .mul (.var 4) (.ix (.var 3) (.var 5)))] [.v (.list (iD row)), .v (.int a), .v (.int m), .own (aD ps), .v (.int (prd ps : Nat)), .v (.int k), .v (.int P), .no]) := fun P p1 hPm p5 s5 => by
      have hmin : min (P : Int) 30 = ((min P 30 : Nat) : Int) := by omega
      have hg : nth (aD ps ++ [.int ((min P 30 : Nat) : Int)]) k = some (.int ((min P 30 : Nat) : Int)) := by
        unfold nth
        rw [List.getElem?_append_right (by omega), hal, Nat.sub_self]; rfl
      have hpr : (prd ps : Int) * ((min P 30 : Nat) : Int) = ((prd (ps ++ [min P 30]) : Nat) : Int) := by
        rw [prd_app, ← Int.natCast_mul]
        congr 2
        show min P 30 = min P 30 * 1
        omega
      have hle2 : prd (ps ++ [min P 30]) ≤ prd ps * P := by
        rw [prd_app]
        show prd ps * (min P 30 * 1) ≤ _
        exact Nat.mul_le_mul_left _ (by omega)
      conv => arg 5; simp -implicitDefEqProofs (disch := first | omega | (simp [hal]; omega)) [hmin, appG_s, item_l, hg, o2_mul, hpr]
      rw [aD_snoc]
      refine stp_nx.mpr ⟨ps ++ [min P 30], _, _, rfl, by rw [List.length_append, hl]; rfl, fun p h => ?_, by omega⟩
      rcases List.mem_append.mp h with h | h
      · exact hp p h
      · rw [List.mem_singleton.mp h]; omega
    have hmul : (prd ps : Int) * (P : Int) = ((prd ps * P : Nat) : Int) := (Int.natCast_mul _ _).symm
    have fin0 := fin P
    obtain ⟨W, hW⟩ : ∃ W : Nat, W = prd ps * P := ⟨_, rfl⟩
    rw [← hW] at hmul fin0
    refine stp_cons ?_
    conv => arg 5; simp -implicitDefEqProofs (disch := omega) [item_l, u2, d2, t6, c6, o2_mod, item_t, htz, ← hP]
    refine stp_nx.mpr (stp_cons ?_)
    by_cases z : m < (W : Int)
    · conv => arg 5; simp -implicitDefEqProofs (disch := omega) [o2_mul, hmul, z, o2_fdiv]
      obtain ⟨P', hP'⟩ : ∃ P' : Nat, P' = max 1 (m.toNat / prd ps) := ⟨_, rfl⟩
      have hmx : max 1 (m / (prd ps : Int)) = (P' : Int) := by
        have : m / (prd ps : Int) = ((m.toNat / prd ps : Nat) : Int) := by
          rw [Int.natCast_ediv, Int.toNat_of_nonneg (by omega)]
        rw [this, hP']
        omega
      have hdv := Nat.div_mul_le_self m.toNat (prd ps)
      have hd2 : m.toNat / prd ps ≤ m.toNat := Nat.div_le_self _ _
      rw [hmx]
      have hPm : prd ps * P' ≤ m.toNat := by
        rw [hP']
        rcases Nat.le_total 1 (m.toNat / prd ps) with w | w
        · rw [Nat.max_eq_right w, Nat.mul_comm]; exact hdv
        · rw [Nat.max_eq_left w]; omega
      exact stp_nx.mpr ((fin P' (by omega) (by omega) (by omega) s5).mono (fun _ h => h) (fun _ h => h) (fun _ h => h.elim) (fun _ h => h.elim))
    · conv => arg 5; simp -implicitDefEqProofs (disch := omega) [o2_mul, hmul, z]
      exact stp_nx.mpr ((fin0 (by omega) (by omega) (by omega) s5).mono (fun _ h => h) (fun _ h => h) (fun _ h => h.elim) (fun _ h => h.elim))
  · rintro e ⟨ps, s5, s6, rfl, hl, hp, hle⟩
    have hal : (aD ps).length = n := by rw [aD_len, hl]
    obtain ⟨by_, hby⟩ : ∃ y : Nat, (y : Int) = c (a + 7) % (n : Int) := ⟨(c (a + 7) % (n : Int)).toNat, by have := Int.emod_nonneg (c (a + 7)) (show (n : Int) ≠ 0 by omega); omega⟩
    have q0 := Int.emod_nonneg (c (a + 7)) (show (n : Int) ≠ 0 by omega)
    have q1 := Int.emod_lt_of_pos (c (a + 7)) (show 0 < (n : Int) by omega)
    refine stp_cons ?_
    conv => arg 5; simp -implicitDefEqProofs (disch := omega) [item_l, t7, c7, hal, o2_mod, ← hby]
    refine stp_nx.mpr ?_
    conv => arg 5; simp -implicitDefEqProofs (disch := first | omega | (simp [hal]; omega)) [sl_l_from, sl_l_to, add_l]
    have e : List.drop by_ (aD ps) ++ List.take by_ (aD ps) = aD (ps.drop by_ ++ ps.take by_) := by
      unfold aD
      rw [List.map_append, List.map_drop, List.map_take]
    rw [e]
    refine stp_rt.mpr ⟨_, rfl, ?_, ?_, fun p h => ?_, ?_⟩
    · simp; omega
    · simp; omega
    · rcases List.mem_append.mp h with h | h
      · exact hp p (List.mem_of_mem_drop h)
      · exact hp p (List.mem_of_mem_take h)
    · rw [prd_app, Nat.mul_comm, ← prd_app, List.take_append_drop]; omega
section
variable {ch : List Sm} (hok : ∀ s ∈ ch, SmOk s) (hn : 0 < ch.length) (hs : spn ch ≤ 100000)
include hok hn hs
theorem ages_ok (h15 : F 15 [.tuple (chD ch)] = some (.v (.int (spn ch : Nat)))) (h16 : F 16 [.tuple (chD ch), .int (spn ch : Nat)] = some (.l (iD (hlS ch (spn ch : Nat))))) : callD F d19 [.tuple (chD ch)] = some (.v (.tuple [.int (gaI ch), .int (gaI ch + (smp ch (ch.length - 1)).p - 1)])) := by
  obtain ⟨q, q1, hq, hq2⟩ := last_div hok hn
  have ok := hok _ (smp_mem (show ch.length - 1 < ch.length by omega))
  have hhm := held_max hok hn
  have hne : chD ch ≠ [] := fun z => by have := chD_len ch; rw [z] at this; simp at this; omega
  have hlast : (chD ch).getLast? = some (.tuple [.int (smp ch (ch.length - 1)).p, .int (smp ch (ch.length - 1)).o]) := by
    rw [List.getLast?_eq_getElem?, chD_len]
    exact chD_nth (by omega)
  have hnth : ∀ n : Nat, n < spn ch → nth (hlS ch ((spn ch : Nat) : Int)) n = some (src ch (n : Int)) := fun n h => by
    unfold nth hlS
    rw [List.getElem?_map, List.getElem?_range (by omega)]; rfl
  have hga : gaI ch = mxI ((List.range q).map fun (k : Nat) => (((smp ch (ch.length - 1)).o : Int) + (k : Int) * (smp ch (ch.length - 1)).p) - src ch (((smp ch (ch.length - 1)).o : Int) + (k : Int) * (smp ch (ch.length - 1)).p)) := by
    unfold gaI; rw [hq2]
  generalize hS : spn ch = S at *
  generalize smp ch (ch.length - 1) = s at *
  have p1 := ok.p1
  have ho := ok.o
  have hS1 : 1 * 1 ≤ s.p * q := Nat.mul_le_mul p1 q1
  have hae := acts_eq (q := q) p1 ho
  rw [← hq] at hae
  have hkq : ∀ k : Nat, k < q → s.o + k * s.p < S := fun k hk => by
    have : (k + 1) * s.p ≤ q * s.p := Nat.mul_le_mul_right _ hk
    rw [Nat.add_mul] at this
    rw [hq, Nat.mul_comm s.p]; omega
  obtain ⟨A, hA⟩ : ∃ A : List Int, A = (List.range q).map fun (k : Nat) => (s.o : Int) + (k : Int) * s.p := ⟨_, rfl⟩
  have hAm : ∀ a ∈ A, ∃ n : Nat, a = (n : Int) ∧ n < S := fun a ha => by
    rw [hA] at ha
    obtain ⟨k, hk, rfl⟩ := List.mem_map.mp ha
    exact ⟨s.o + k * s.p, by rw [Int.natCast_add, Int.natCast_mul], hkq k (List.mem_range.mp hk)⟩
  have hAl : A.length = q := by rw [hA]; simp
  have hga2 : gaI ch = mxI (A.map fun a => a - src ch a) := by rw [hga, hA, List.map_map]; rfl
  have hq3 : q ≤ S := by rw [hq]; have : 1 * q ≤ s.p * q := Nat.mul_le_mul_right _ p1; omega
  have hacts : ((List.range S).filter fun (b : Nat) => decide (((b : Int) - (s.o : Int)) % (s.p : Int) = 0)).map (fun (k : Nat) => PyData.int (k : Int)) = iD A := by
    rw [hae, hA]
    unfold iD
    rw [List.map_map, List.map_map]
    apply List.map_congr_left
    intro k _
    show PyData.int ((s.o + k * s.p : Nat) : Int) = PyData.int ((s.o : Int) + (k : Int) * s.p)
    rw [Int.natCast_add, Int.natCast_mul]
  have hAe : A.map (fun a => a - src ch a) ≠ [] := fun z => by
    have := congrArg List.length z
    simp at this
    rw [this] at hAl; simp at hAl; omega
  have hSe : ((List.range S).map fun (b : Nat) => (b : Int) - src ch (b : Int)) ≠ [] := fun z => by
    rw [List.map_eq_nil_iff, List.range_eq_nil] at z
    omega
  refine Rets.eq (rets_f ?_)
  unfold d19 Wi.start
  refine stp_cons ?_
  conv => arg 5; simp -implicitDefEqProofs [h15]
  refine stp_nx.mpr (stp_cons ?_)
  conv => arg 5; simp -implicitDefEqProofs [h16]
  refine stp_nx.mpr (stp_cons ?_)
  conv => arg 5; simp -implicitDefEqProofs [item_tn hne, hlast]
  refine stp_nx.mpr (stp_cons ?_)
  conv => arg 5; simp -implicitDefEqProofs (disch := omega) [rng1]
  rw [comp_rgf (fun k => .int (k : Int)) (fun (b : Nat) => decide (((b : Int) - (s.o : Int)) % (s.p : Int) = 0)) (by omega) fun k hk => by
    unfold compF
    by_cases z : ((k : Int) - (s.o : Int)) % (s.p : Int) = 0
    · simp -implicitDefEqProofs (disch := omega) [o2_mod, z]
    · simp -implicitDefEqProofs (disch := omega) [o2_mod, z]]
  rw [hacts]
  conv => arg 5; simp -implicitDefEqProofs
  refine stp_nx.mpr ?_
  conv => arg 5; simp -implicitDefEqProofs (disch := omega) [rng1]
  rw [comp_iD (fun a => a - src ch a) (by omega) fun x hx => by
    obtain ⟨n, rfl, hn⟩ := hAm x hx
    have := hnth n hn
    have tn : ((n : Int)).toNat = n := by omega
    simp -implicitDefEqProofs (disch := omega) [item_l, tn, this]]
  rw [comp_rg (fun (b : Nat) => .int ((b : Int) - src ch (b : Int))) (by omega) fun k hk => by
    have := hnth k hk
    simp -implicitDefEqProofs (disch := omega) [item_l, this]]
  have hi : (List.range S).map (fun (b : Nat) => PyData.int ((b : Int) - src ch (b : Int))) = iD ((List.range S).map fun (b : Nat) => (b : Int) - src ch (b : Int)) := by unfold iD; rw [List.map_map]; rfl
  rw [hi]
  conv => arg 5; simp -implicitDefEqProofs [b_mxl hAe, b_mxl hSe, hhm, ← hga2]
  exact stp_rt.mpr rfl
end
end
section
variable {p0 : Nat} {ps : List Nat} (h1 : ∀ p ∈ p0 :: ps, 1 ≤ p) (h30 : ∀ p ∈ p0 :: ps, p ≤ 30)
include h1 h30
theorem row_ch {r : List Nat} (hr : r ∈ rowsK ps ps.length) : r.length = (p0 :: ps).length ∧ (∀ s ∈ mkc (p0 :: ps) r, SmOk s) ∧ (mkc (p0 :: ps) r).length = (p0 :: ps).length := by
  obtain ⟨a, b, c⟩ := rowsK_mem (Nat.le_refl _) r hr
  have hl : r.length = (p0 :: ps).length := a
  refine ⟨hl, mkc_ok hl (fun k hk => ?_) h30, mkc_len hl⟩
  cases k with
  | zero =>
    rw [b]
    exact h1 p0 List.mem_cons_self
  | succ k =>
    have := c k (by simp at hk; omega)
    exact this
theorem best_facts : (bestR (p0 :: ps)).1 ∈ rowsK ps ps.length ∧ (bestR (p0 :: ps)).2 = gaI (mkc (p0 :: ps) (bestR (p0 :: ps)).1) ∧ ∀ r ∈ rowsK ps ps.length, (bestR (p0 :: ps)).2 ≤ gaI (mkc (p0 :: ps) r) := by
  obtain ⟨a, b, c⟩ := fold_best (fun r => gaI (mkc (p0 :: ps) r)) (rowsK ps ps.length) (List.replicate (p0 :: ps).length 0, sumN (p0 :: ps))
  have e : bestR (p0 :: ps) = (rowsK ps ps.length).foldl (stB fun r => gaI (mkc (p0 :: ps) r)) (List.replicate (p0 :: ps).length 0, sumN (p0 :: ps)) := rfl
  rw [← e] at a b c
  obtain ⟨rest, hrest⟩ := rowsK_head (fun p hp => h1 p (List.mem_cons_of_mem _ hp)) (Nat.le_refl ps.length)
  have hm : List.replicate (ps.length + 1) 0 ∈ rowsK ps ps.length := by rw [hrest]; exact List.mem_cons_self
  obtain ⟨l1, l2, l3⟩ := row_ch h1 h30 hm
  have hb : (bestR (p0 :: ps)).2 ≤ gaI (mkc (p0 :: ps) (List.replicate (ps.length + 1) 0)) := b _ hm
  have ht := gaI_top l2 (by rw [l3]; simp)
  have hs := sum_sw (mkc (p0 :: ps) (List.replicate (ps.length + 1) 0))
  have hw := sw_mono l2 (k := (mkc (p0 :: ps) (List.replicate (ps.length + 1) 0)).length - 1) (by rw [l3]; simp)
  rw [show (mkc (p0 :: ps) (List.replicate (ps.length + 1) 0)).length - 1 + 1 = (mkc (p0 :: ps) (List.replicate (ps.length + 1) 0)).length by rw [l3]; simp] at hw
  have e2 : ((mkc (p0 :: ps) (List.replicate (ps.length + 1) 0)).map fun s => (s.p : Int)) = (p0 :: ps).map Int.ofNat := by
    have := mkc_p l1
    conv => rhs; rw [← this]
    rw [List.map_map]; rfl
  rw [e2, l3] at hs
  have hsum : sumN (p0 :: ps) = ((p0 :: ps).map Int.ofNat).sum := rfl
  rcases c with c | ⟨c1, c2⟩
  · have : (bestR (p0 :: ps)).2 = sumN (p0 :: ps) := by rw [c]
    rw [l3] at hw ht
    have : 0 < (p0 :: ps).length := by simp
    omega
  · exact ⟨c1, c2, b⟩
def bdL (few : List Nat) : List Int := 0 :: few.dropLast.map fun (p : Nat) => (p : Int) - (Nat.gcd p (gn few (few.length - 1)) : Nat)
theorem bound_le : mxI (bdL (p0 :: ps)) ≤ (bestR (p0 :: ps)).2 ∧ ((p0 :: ps).length = 2 → mxI (bdL (p0 :: ps)) = (bestR (p0 :: ps)).2) := by
  obtain ⟨b1, b2, b3⟩ := best_facts h1 h30
  obtain ⟨l1, l2, l3⟩ := row_ch h1 h30 b1
  have le : mxI (bdL (p0 :: ps)) ≤ (bestR (p0 :: ps)).2 := by
    rw [b2]
    have hm := mxI_mem (bdL (p0 :: ps)) (by unfold bdL; simp)
    rcases List.mem_cons.mp hm with h | h
    · rw [h]; exact gaI_nn l2 (by rw [l3]; simp)
    · obtain ⟨p, hp, e⟩ := List.mem_map.mp h
      rw [← e]
      obtain ⟨k, hk, rfl⟩ := List.getElem_of_mem hp
      rw [List.length_dropLast] at hk
      have := gaI_gcd l2 (k := k) (by rw [l3]; exact hk)
      rw [l3, mkc_smp l1 (by omega), mkc_smp l1 (by omega)] at this
      have eg := gn_get (show k < (p0 :: ps).length by omega)
      rw [List.getElem?_eq_getElem (by omega)] at eg
      rw [List.getElem_dropLast, Option.some.inj eg]
      exact this
  refine ⟨le, fun h2 => ?_⟩
  obtain ⟨q, rfl⟩ : ∃ q, ps = [q] := by
    match ps, h2 with
    | [q], _ => exact ⟨q, rfl⟩
  have hp := h1 p0 List.mem_cons_self
  have hp2 := h30 p0 List.mem_cons_self
  have hq := h1 q (by simp)
  have hq2 := h30 q (by simp)
  obtain ⟨rest, hrest⟩ := rowsK_head (ps := [q]) (fun p hp => h1 p (List.mem_cons_of_mem _ hp)) (Nat.le_refl 1)
  have h3 := b3 [0, 0] (by
    show [0, 0] ∈ rowsK [q] 1
    rw [hrest]; exact List.mem_cons_self)
  have h4 := gaI_two ⟨hp, hp2⟩ ⟨hq, hq2⟩
  have h5 := mxI_ge (xs := bdL [p0, q]) (x := (p0 : Int) - (Nat.gcd p0 q : Nat)) (by
    show _ ∈ 0 :: [(p0 : Int) - (Nat.gcd p0 q : Nat)]
    simp)
  have h6 : gaI (mkc [p0, q] [0, 0]) = gaI [⟨p0, 0⟩, ⟨q, 0⟩] := rfl
  omega
end
theorem neT {xs ys : List Int} : cm .ne (.tuple (iD xs)) (.tuple (iD ys)) = some (!decide (xs = ys)) := by
  have h : cm .ne (.tuple (iD xs)) (.tuple (iD ys)) = (cm .eq (.tuple (iD xs)) (.tuple (iD ys))).map (!·) := rfl
  rw [h, eqT]; rfl
theorem ne_two (a b : Int) : cm .ne (.tuple [.int a, .int b]) (.tuple [.int a, .int b]) = some false := by
  have h := neT (xs := [a, b]) (ys := [a, b])
  rw [decide_eq_true rfl] at h
  exact h
section
variable {ch : List Sm} (hok : ∀ s ∈ ch, SmOk s) (hn : 0 < ch.length) (hl : ch.length ≤ 10) (hs : spn ch ≤ 100000)
theorem f12 (n : Nat) {a b : Nat} (h1 : a ≤ 30) (h2 : b ≤ 5000) : run Pd (n + 1) 12 [.int a, .int b] = some (.v (.int (Nat.gcd a b : Nat))) := lgcd2_ok (F := run Pd n) (by omega) (by omega)
theorem f13 (n : Nat) (a b : Nat) (h0 : 0 < a) (h1 : a ≤ 100000) (h2 : b ≤ 30) : run Pd (n + 2) 13 [.int a, .int b] = some (.v (.int (lcmN a b : Nat))) := llcm_ok (F := run Pd (n + 1)) h0 (by omega) (by omega) (lgcd_ok (F := run Pd n) (by omega) (by omega))
include hok hl hs
theorem f15 (n : Nat) : run Pd (n + 3) 15 [.tuple (chD ch)] = some (.v (.int (spn ch : Nat))) := lchspan_ok (F := run Pd (n + 2)) hok hl hs (f13 n)
theorem f4 (n : Nat) : run Pd (n + 1) 4 [.tuple (chD ch)] = some (.v (.int (spn ch : Nat))) := chspan_ok (F := run Pd n) hok hl hs
omit hs
theorem f17 (n : Nat) (b : Int) : run Pd (n + 1) 17 [.tuple (chD ch), .int b] = some (.v (.int (src ch b))) := lsrc_ok (F := run Pd n) hok hl b
theorem f5 (n : Nat) (b : Int) : run Pd (n + 1) 5 [.tuple (chD ch), .int b] = some (.v (.int (src ch b))) := source_ok (F := run Pd n) hok hl b
include hn
theorem f16 (n : Nat) {m : Nat} (hm : m ≤ 100000) : run Pd (n + 1) 16 [.tuple (chD ch), .int m] = some (.l (iD (hlS ch m))) := lheld_ok (F := run Pd n) hok hn hl hm
include hs
theorem f6 (n : Nat) : run Pd (n + 2) 6 [.tuple (chD ch)] = some (.l (iD ((List.range (spn ch / (smp ch (ch.length - 1)).p)).map fun (k : Nat) => ((smp ch (ch.length - 1)).o : Int) + (k : Int) * (smp ch (ch.length - 1)).p))) := lacts_ok (F := run Pd (n + 1)) hok hn hl hs (f4 hok hl hs n)
theorem f7 (n : Nat) : run Pd (n + 3) 7 [.tuple (chD ch)] = some (.v (.int (gaI ch))) := gact_ok (F := run Pd (n + 2)) hok hn hl hs (f5 hok hl (n + 1)) (f6 hok hn hl hs n)
theorem f8 (n : Nat) : run Pd (n + 4) 8 [.tuple (chD ch)] = some (.v (.int (gaI ch + (smp ch (ch.length - 1)).p - 1))) := gheld_ok (F := run Pd (n + 3)) hok hn hl hs (f7 hok hn hl hs n)
theorem f10 (n : Nat) (en : Int) : run Pd (n + 3) 10 [.tuple (chD ch), .int en] = some (.v (if gaI ch < en then .int (gaI ch) else .none)) := below_ok (F := run Pd (n + 2)) hok hn hl hs (f6 hok hn hl hs n) (f5 hok hl (n + 1))
theorem f18 (n : Nat) (en : Int) : ∃ r : Int, run Pd (n + 4) 18 [.tuple (chD ch), .int en] = some (.v (.int r)) ∧ (gaI ch < en → r = gaI ch) ∧ (¬ gaI ch < en → en ≤ r) := lage_ok (F := run Pd (n + 3)) hok hn hl hs (f15 hok hl hs n) (f17 hok hl (n + 2))
theorem f19 (n : Nat) : run Pd (n + 4) 19 [.tuple (chD ch)] = some (.v (.tuple [.int (gaI ch), .int (gaI ch + (smp ch (ch.length - 1)).p - 1)])) := ages_ok (F := run Pd (n + 3)) hok hn hs (f15 hok hl hs n) (f16 hok hn hl (n + 2) hs)
end
theorem f20 (n : Nat) {ps os : List Nat} (h : os.length = ps.length) (hl : ps.length ≤ 10) : run Pd (n + 1) 20 [.tuple (aD ps), .tuple (aD os)] = some (.v (.tuple (chD (mkc ps os)))) := lwith_ok (F := run Pd n) h hl
theorem f9 (n : Nat) {ps : List Nat} (h1 : ∀ p ∈ ps, 1 ≤ p) (h30 : ∀ p ∈ ps, p ≤ 30) (h0 : 0 < ps.length) (hl : ps.length ≤ 10) : run Pd (n + 1) 9 [.tuple (aD ps)] = some (.v (.tuple (aD (wof ps)))) := worst_ok (F := run Pd n) h1 h30 h0 hl
section
variable {p0 : Nat} {ps : List Nat} (h1 : ∀ p ∈ p0 :: ps, 1 ≤ p) (h30 : ∀ p ∈ p0 :: ps, p ≤ 30) (h4 : ps.length ≤ 5) (h500 : prd (p0 :: ps) ≤ 500)
include h1 h30 h4 h500
theorem row_fit {r : List Nat} (hr : r ∈ rowsK ps ps.length) : (∀ s ∈ mkc (p0 :: ps) r, SmOk s) ∧ 0 < (mkc (p0 :: ps) r).length ∧ (mkc (p0 :: ps) r).length ≤ 10 ∧ spn (mkc (p0 :: ps) r) ≤ 100000 := by
  obtain ⟨a, b, c⟩ := row_ch h1 h30 hr
  refine ⟨b, by rw [c]; simp, by rw [c]; simp; omega, ?_⟩
  rw [spn_ps, mkc_p a]
  have := spnL_prd h1
  omega
theorem f11 (n : Nat) : run Pd (n + 4) 11 [.tuple (aD (p0 :: ps))] = some (.v (.tuple (aD (bestR (p0 :: ps)).1))) := best_ok (F := run Pd (n + 3)) h1 h30 h4 h500 fun r hr en => by
  obtain ⟨a, b, c, d⟩ := row_fit h1 h30 h4 h500 hr
  exact f10 a b c d n en
theorem f21 (n : Nat) : run Pd (n + 5) 21 [.tuple (aD (p0 :: ps))] = some (.v (.tuple [.tuple (aD (bestR (p0 :: ps)).1), .int (bestR (p0 :: ps)).2])) := lbest_ok (F := run Pd (n + 4)) h1 h30 h4 h500 (fun r hr en => by
  obtain ⟨a, b, c, d⟩ := row_fit h1 h30 h4 h500 hr
  exact f18 a b c d n en) fun r hr => f20 (n + 3) (row_ch h1 h30 hr).1 (by simp; omega)
end
theorem aD_lastD {xs : List Nat} (h : 0 < xs.length) : (aD xs).getLast? = some (.int (gn xs (xs.length - 1) : Nat)) := by
  rw [List.getLast?_eq_getElem?, aD_len]
  unfold aD
  rw [List.getElem?_map, gn_get (by omega)]; rfl
theorem aD_nth {xs : List Nat} {k : Nat} (h : k < xs.length) : nth (aD xs) k = some (.int (gn xs k : Nat)) := by
  unfold nth aD
  rw [List.getElem?_map, gn_get h]; rfl
theorem comp_aD {F : FE} {elt : E} {t : Tg} {vars : List Nat} {cond : Option E} {env : En} {ns : List Nat} (g : Nat → D) (hn : ns.length ≤ 10000000) (e : ∀ a ∈ ns, compF F elt t vars cond env (.int (a : Nat)) = some (some (g a))) :
    compR (compF F elt t vars cond env) (some (aD ns)) = some (.l (ns.map g)) := comp_mp (fun a : Nat => PyData.int (a : Nat)) g hn e
theorem run_law : ∀ ns : List Int, ns.length ≤ 63 → run Pd 40 23 [fz (iD ns)] = some (.v (.bool true)) := by
  intro ns _
  rw [run_at (n := 39) (d := d23) rfl]
  obtain ⟨row, c, hrow, hlen, hcells, hc, hb⟩ := row_ok (P := Pd) rfl rfl 37 ns 50 50 rfl (by decide)
  have hrow : run Pd 39 1 [fz (iD ns), .int 50] = some (.l (iD row)) := hrow
  have c0 := hc 0 (by omega)
  have e14 : ∀ most : Nat, 1 ≤ most → most ≤ 5000 → ∃ ch, run Pd 39 14 [.list (iD row), .int (1 : Nat), .int most] = some (.v (.tuple (chD ch))) ∧ 1 ≤ ch.length ∧ ch.length ≤ 6 ∧ (∀ s ∈ ch, SmOk s) ∧ spn ch ≤ most := fun most h1 h2 =>
    lchain_ok (F := run Pd 38) hc hb (by omega) h1 h2 (by omega) (fun a b h0 h1 h2 => f13 36 a b h0 (by omega) h2) fun a b h1 h2 => f12 37 h1 h2
  have e19 := fun {ch : List Sm} a b c d => f19 (ch := ch) a b c d 35
  have e7 := fun {ch : List Sm} a b c d => f7 (ch := ch) a b c d 36
  have e8 := fun {ch : List Sm} a b c d => f8 (ch := ch) a b c d 35
  have e9 := fun {ps : List Nat} a b c d => f9 38 (ps := ps) a b c d
  have e20 := fun {ps os : List Nat} a b => f20 38 (ps := ps) (os := os) a b
  have e11 := fun {p0 : Nat} {ps : List Nat} a b c d => f11 (p0 := p0) (ps := ps) a b c d 35
  have e21 := fun {p0 : Nat} {ps : List Nat} a b c d => f21 (p0 := p0) (ps := ps) a b c d 34
  have e12 := fun {a b : Nat} h1 h2 => f12 38 (a := a) (b := b) h1 h2
  have e2 : ∀ i : Int, run Pd 39 2 [.int i] = some (.v (.bool true)) := fun i => m2_int (F := run Pd 38)
  have ki : ∀ i : Int, run Pd 39 3 [.int i, .int i] = some (.v (.bool true)) := fun i => like_ok (P := Pd) rfl rfl 0 _ (.int i) 37
  have kt : ∀ xs : List Nat, xs.length ≤ 1000 → run Pd 39 3 [.tuple (aD xs), .tuple (aD xs)] = some (.v (.bool true)) := fun xs h => like_ok (P := Pd) rfl rfl 1 _ (.tup (by rw [aD_len]; omega) fun x hx => by
    obtain ⟨k, _, rfl⟩ := List.mem_map.mp hx
    exact .int _) 36
  obtain ⟨few, e22, n1, n4, hp, h500⟩ := periods_ok (F := run Pd 38) hc hb (a := 20) (by omega) (by omega)
  have e22 : run Pd 39 22 [.list (iD row), .int 20] = some (.v (.tuple (aD few))) := e22
  generalize run Pd 39 = F at *
  -- the second half: the best offsets
  have hfew : ∀ (v2 v3 v4 v5 v6 v7 v8 : Sl), Stp (fun _ => False) (fun r => r = .v (.bool true)) (fun _ => False) (fun _ => False) (dnSs F (d23.body.drop 12) [.v (fz (iD ns)), .own (iD row), v2, v3, v4, v5, v6, v7, v8, .no, .no, .no, .no, .no, .no, .no, .no]) := by
    intro v2 v3 v4 v5 v6 v7 v8
    obtain ⟨p0, ps, rfl⟩ : ∃ p0 ps, few = p0 :: ps := by
      cases few with
      | nil => simp at n1
      | cons a b => exact ⟨a, b, rfl⟩
    have h1 : ∀ p ∈ p0 :: ps, 1 ≤ p := fun p h => (hp p h).1
    have h30 : ∀ p ∈ p0 :: ps, p ≤ 30 := fun p h => (hp p h).2
    have h4 : ps.length ≤ 5 := by simp at n4; omega
    have y21 := e21 h1 h30 h4 h500
    have y11 := e11 h1 h30 h4 h500
    obtain ⟨bm, b2, b3⟩ := best_facts h1 h30
    obtain ⟨w1, w2, w3⟩ := row_ch h1 h30 bm
    obtain ⟨r1, r2, r3, r4⟩ := row_fit h1 h30 h4 h500 bm
    have y20 := e20 w1 (by omega)
    have y7 := e7 r1 r2 r3 r4
    rw [← b2] at y7
    obtain ⟨m1, m2⟩ := bound_le h1 h30
    have kb := kt (bestR (p0 :: ps)).1 (by omega)
    have hsl := fun {i : Int} => sl_cut1 (p0 :: ps) (by omega) (i := i)
    have hlast := aD_lastD (xs := p0 :: ps) (by omega)
    have hne : aD (p0 :: ps) ≠ [] := fun z => by have := aD_len (p0 :: ps); rw [z] at this; simp at this
    have hgl : gn (p0 :: ps) ((p0 :: ps).length - 1) ≤ 30 := h30 _ (List.mem_of_getElem? (gn_get (by omega)))
    have hdl : (aD (p0 :: ps).dropLast).length = (p0 :: ps).length - 1 := by rw [aD_len, List.length_dropLast]
    have hlD := aD_len (p0 :: ps)
    have hmem : ∀ p ∈ (p0 :: ps).dropLast, p ≤ 30 := fun p h => h30 p (List.dropLast_subset _ h)
    have hbd : bdL (p0 :: ps) = 0 :: (p0 :: ps).dropLast.map fun (p : Nat) => (p : Int) - (Nat.gcd p (gn (p0 :: ps) ((p0 :: ps).length - 1)) : Nat) := rfl
    have hbdD : [PyData.int 0] ++ (p0 :: ps).dropLast.map (fun (p : Nat) => PyData.int ((p : Int) - (Nat.gcd p (gn (p0 :: ps) ((p0 :: ps).length - 1)) : Nat))) = iD (bdL (p0 :: ps)) := by
      rw [hbd]
      unfold iD
      rw [List.map_cons, List.map_map]; rfl
    have hbx := b_mxl (ns := bdL (p0 :: ps)) (by rw [hbd]; simp)
    have hno : ∀ xs : List Nat, noLs (aD xs) = true := fun xs => by
      induction xs with
      | nil => rfl
      | cons x r ih => exact ih
    have hna : ∀ (xs : List Nat) (l : List Nat) (env : En), after (.v (.tuple (aD xs))) l env = env := fun xs l env => after_noL (show noLs (aD xs) = true from hno xs)
    have hna2 : ∀ (xs : List Nat) (i : Int) (l : List Nat) (env : En), after (.v (.tuple [.tuple (aD xs), .int i])) l env = env := fun xs i l env => after_noL (show (noLs (aD xs) && true) = true from by rw [hno]; rfl)
    generalize hfw : p0 :: ps = few at *
    generalize hq : gn few (few.length - 1) = q at *
    generalize hb1 : (bestR few).1 = best at *
    generalize hb2 : (bestR few).2 = least at *
    generalize hB : mxI (bdL few) = B at *
    unfold d23
    refine stp_cons ?_
    conv => arg 5; simp -implicitDefEqProofs [e22, hna]
    refine stp_nx.mpr (stp_cons ?_)
    conv => arg 5; simp -implicitDefEqProofs [y21, hna2]
    refine stp_nx.mpr (stp_cons ?_)
    conv => arg 5; simp -implicitDefEqProofs (disch := omega) [hsl]
    rw [comp_aD (fun (p : Nat) => PyData.int ((p : Int) - (Nat.gcd p q : Nat))) (by rw [List.length_dropLast]; omega) fun p hp => by
      have := hmem p hp
      have e := e12 (a := p) (b := q) (by omega) (by omega)
      simp -implicitDefEqProofs [item_tn hne, hlast, e]]
    have hadd : o2 .add (.list [.int 0]) (.list (few.dropLast.map fun (p : Nat) => PyData.int ((p : Int) - (Nat.gcd p q : Nat)))) = some (.l (iD (bdL few))) := by
      rw [← hbdD]
      exact add_l (by simp; omega)
    rw [List.map_dropLast] at hadd
    conv => arg 5; simp -implicitDefEqProofs [hadd, hbx]
    refine stp_nx.mpr (stp_cons ?_)
    have m1' : ¬ least < B := by omega
    by_cases z : few.length = 2
    · have := m2 z
      subst this
      conv => arg 5; simp -implicitDefEqProofs [hlD, z]
      refine stp_nx.mpr ?_
      conv => arg 5; simp -implicitDefEqProofs [y11, kb, y20, y7, ki]
      exact stp_rt.mpr rfl
    · have z2 : ¬ ((few.length : Nat) : Int) = 2 := by omega
      conv => arg 5; simp -implicitDefEqProofs [hlD, m1', z2]
      refine stp_nx.mpr ?_
      conv => arg 5; simp -implicitDefEqProofs [y11, kb, y20, y7, ki]
      exact stp_rt.mpr rfl
  have htail : ∀ ch : List Sm, 1 ≤ ch.length → ch.length ≤ 6 → (∀ s ∈ ch, SmOk s) → spn ch ≤ 5000 → Stp (fun _ => False) (fun r => r = .v (.bool true)) (fun _ => False) (fun _ => False) (dnSs F (d23.body.drop 2) [.v (fz (iD ns)), .own (iD row), .v (.tuple (chD ch)), .no, .no, .no, .no, .no, .no, .no, .no, .no, .no, .no, .no, .no, .no]) := fun ch hl1 hl2 hok hsp => by
    have hps : (ch.map Sm.p).length = ch.length := List.length_map ..
    have hp1 : ∀ p ∈ ch.map Sm.p, 1 ≤ p := fun p h => by
      obtain ⟨s, hs, rfl⟩ := List.mem_map.mp h
      exact (hok s hs).p1
    have hp30 : ∀ p ∈ ch.map Sm.p, p ≤ 30 := fun p h => by
      obtain ⟨s, hs, rfl⟩ := List.mem_map.mp h
      exact (hok s hs).p2
    have hsum0 := b_sumN (ch.map Sm.p)
    have hsumE : sumN (ch.map Sm.p) = sw ch ch.length + ch.length := by
      rw [← sum_sw]
      unfold sumN
      rw [List.map_map]; rfl
    have hlast : gn (ch.map Sm.p) (ch.length - 1) = (smp ch (ch.length - 1)).p := by
      have := gn_get (xs := ch.map Sm.p) (k := ch.length - 1) (by omega)
      rw [List.getElem?_map, List.getElem?_eq_getElem (by omega), ← smp_get] at this
      exact (Option.some.inj this).symm
    have hsw := sw_s (ch := ch) (k := ch.length - 1) (by omega)
    rw [show ch.length - 1 + 1 = ch.length by omega] at hsw
    have y19 := e19 hok (by omega) (by omega) (by omega)
    have y7 := e7 hok (by omega) (by omega) (by omega)
    have y8 := e8 hok (by omega) (by omega) (by omega)
    have htop := gaI_top hok (by omega)
    have y9 := e9 hp1 hp30 (by omega) (by omega)
    -- the worst offsets
    have lw := wof_len (ch.map Sm.p)
    have okw := mkc_ok lw (fun k hk => wof_lt hp1 hk) hp30
    have lnw := mkc_len lw
    have spw : spn (mkc (ch.map Sm.p) (wof (ch.map Sm.p))) = spn ch := by rw [spn_ps, mkc_p lw, spn_ps]
    have z19 := e19 okw (by omega) (by omega) (by omega)
    have z8 := e8 okw (by omega) (by omega) (by omega)
    have gw := gaI_worst hp1 hp30 (by omega)
    have sww : sw (mkc (ch.map Sm.p) (wof (ch.map Sm.p))) (ch.length - 1) = sw ch (ch.length - 1) := by
      have e : ∀ c : List Sm, sw c (ch.length - 1) = (((c.map Sm.p).take (ch.length - 1)).map fun (p : Nat) => (p : Int) - 1).sum := fun c => by
        unfold sw
        rw [← List.map_take, List.map_map]; rfl
      rw [e, e, mkc_p lw]
    have smw : (smp (mkc (ch.map Sm.p) (wof (ch.map Sm.p))) (ch.length - 1)).p = (smp ch (ch.length - 1)).p := by
      rw [mkc_smp lw (by omega)]
      exact hlast
    rw [lnw, hps] at z19 z8
    rw [hps] at gw
    rw [gw, sww, smw] at z19 z8
    have y20 := e20 lw (by omega)
    have hworst : ∀ k : Nat, k < ch.length → nth (aD (wof (ch.map Sm.p))) k = some (.int (gn (wof (ch.map Sm.p)) k : Nat)) := fun k hk => aD_nth (by omega)
    have hper : ∀ k : Nat, k < ch.length → nth (aD (ch.map Sm.p)) k = some (.int (gn (ch.map Sm.p) k : Nat)) := fun k hk => aD_nth (by omega)
    have hwlt : ∀ k : Nat, k < ch.length → gn (wof (ch.map Sm.p)) k < gn (ch.map Sm.p) k := fun k hk => wof_lt hp1 (by omega)
    have hpl := aD_lastD (xs := ch.map Sm.p) (by omega)
    rw [hps, hlast] at hpl
    have hpne : aD (ch.map Sm.p) ≠ [] := fun z => by have := aD_len (ch.map Sm.p); rw [z] at this; simp at this; omega
    have lwD : (aD (wof (ch.map Sm.p))).length = ch.length := by rw [aD_len, lw, hps]
    have lpD : (aD (ch.map Sm.p)).length = ch.length := by rw [aD_len, hps]
    have hcomp : (List.range ch.length).map (fun k => PyData.int ((smp ch k).p : Int)) = aD (ch.map Sm.p) := by
      rw [chP_sum, aD_iD, List.map_map]; rfl
    unfold d23
    refine stp_cons ?_
    conv => arg 5; simp -implicitDefEqProofs
    rw [comp_nth ch.length (fun k => .int (smp ch k).p) (chD_len ch) (by omega) fun k x hk => by
      obtain ⟨hlt, rfl⟩ := ch_get hk
      simp -implicitDefEqProofs]
    rw [hcomp]
    conv => arg 5; simp -implicitDefEqProofs
    refine stp_nx.mpr (stp_cons ?_)
    conv => arg 5; simp -implicitDefEqProofs [hsum0, lpD, hsumE]
    refine stp_nx.mpr (stp_cons ?_)
    conv => arg 5; simp -implicitDefEqProofs [y9]
    refine stp_nx.mpr (stp_cons ?_)
    have hall := b_all (fun _ : Nat => true) (List.range ch.length)
    have hall2 : ((List.range ch.length).all fun _ => true) = true := by simp
    rw [hall2] at hall
    conv => arg 5; simp -implicitDefEqProofs [lwD, lpD]
    rw [comp_nth ch.length (fun _ => PyData.bool true) lwD (by omega) fun k x hk => by
      obtain ⟨j, _, rfl⟩ := aD_get hk
      simp -implicitDefEqProofs [e2]]
    conv => arg 5; simp -implicitDefEqProofs [hall]
    refine stp_nx.mpr (stp_cons ?_)
    conv => arg 5; simp -implicitDefEqProofs (disch := omega) [lpD, rng1]
    rw [comp_rg (fun _ => PyData.bool true) (by omega) fun k hk => by
      have h1 := hworst k hk
      have h2 := hper k hk
      have h3 := hwlt k hk
      simp -implicitDefEqProofs (disch := omega) [item_t, h1, h2, h3]]
    conv => arg 5; simp -implicitDefEqProofs [hall]
    refine stp_nx.mpr (stp_cons ?_)
    conv => arg 5; simp -implicitDefEqProofs [y20]
    refine stp_nx.mpr (stp_cons ?_)
    have a1 : sw ch (ch.length - 1) + ((smp ch (ch.length - 1)).p : Int) - 1 = sw ch ch.length := by omega
    have a2 : sw ch ch.length - ((smp ch (ch.length - 1)).p : Int) + 1 = sw ch (ch.length - 1) := by omega
    rw [a1] at z19 z8
    generalize mkc (ch.map Sm.p) (wof (ch.map Sm.p)) = late at *
    conv => arg 5; simp -implicitDefEqProofs [z19, z8, item_tn hpne, hpl, a2, ne_two, ki]
    refine stp_nx.mpr (stp_cons ?_)
    conv => arg 5; simp -implicitDefEqProofs [y19]
    refine stp_nx.mpr (stp_cons ?_)
    have a3 : ¬ sw ch ch.length < gaI ch + ((smp ch (ch.length - 1)).p : Int) - 1 := by omega
    conv => arg 5; simp -implicitDefEqProofs [a3, y7, ki]
    refine stp_nx.mpr (stp_cons ?_)
    conv => arg 5; simp -implicitDefEqProofs [y8, ki]
    refine stp_nx.mpr ?_
    exact hfew _ _ _ _ _ _ _
  refine Rets.eq (rets_f ?_)
  unfold d23 at htail
  unfold d23 Wi.start
  have it0 : item (.tuple [.int 60, .int 5000]) (.int 0) = some (.int 60) := rfl
  have it1 : item (.tuple [.int 60, .int 5000]) (.int 1) = some (.int 5000) := rfl
  refine stp_cons ?_
  conv => arg 5; simp -implicitDefEqProofs [hrow]
  refine stp_nx.mpr (stp_cons ?_)
  by_cases z : c 0 % 16 = 7
  · obtain ⟨ch, x14, hl1, hl2, hok, hsp⟩ := e14 5000 (by omega) (by omega)
    have x14 : F 14 [.list (iD row), .int 1, .int 5000] = some (.v (.tuple (chD ch))) := x14
    conv => arg 5; simp -implicitDefEqProofs (disch := omega) [item_l, c0, o2_mod, z, x14, it0, it1]
    exact stp_nx.mpr (htail ch hl1 hl2 hok (by omega))
  · obtain ⟨ch, x14, hl1, hl2, hok, hsp⟩ := e14 60 (by omega) (by omega)
    have x14 : F 14 [.list (iD row), .int 1, .int 60] = some (.v (.tuple (chD ch))) := x14
    conv => arg 5; simp -implicitDefEqProofs (disch := omega) [item_l, c0, o2_mod, z, x14, it0, it1]
    exact stp_nx.mpr (htail ch hl1 hl2 hok (by omega))
end Lw
namespace Lw
open PySem PySem.Spec PyProof.Rows L2 Wi
def topS (i : Nat) : Stmt := PySem.Challenge.pw_withinage_k88_whole_offsets.main.body.getD i (.Pass ⟨0, 0, 0, 0⟩)
def g0 : FI := ⟨"_law_mixed", topS 11, ["script", "k"], ["script", "k", "cell", "first", "second", "third"], d0, "_law_mixed", none⟩
def g1 : FI := ⟨"_law_row", topS 12, ["script", "many"], ["script", "many", "big", "row", "k"], d1, "_law_row", none⟩
def g2 : FI := ⟨"_law_is_int", topS 13, ["value"], ["value"], d2, "_law_is_int", none⟩
def g3 : FI := ⟨"_law_like", topS 14, ["value", "due"], ["value", "due", "k"], d3, "_law_like", none⟩
def g4 : FI := ⟨"_span", topS 2, ["chain"], ["chain", "span", "period", "offset"], d4, "_span", none⟩
def g5 : FI := ⟨"source", topS 3, ["chain", "beat"], ["chain", "beat", "period", "offset"], d5, "source", none⟩
def g6 : FI := ⟨"_acts", topS 4, ["chain"], ["chain", "period", "offset"], d6, "_acts", none⟩
def g7 : FI := ⟨"greatest_act_age", topS 5, ["chain"], ["chain", "act"], d7, "greatest_act_age", none⟩
def g8 : FI := ⟨"greatest_held_age", topS 6, ["chain"], ["chain"], d8, "greatest_held_age", none⟩
def g9 : FI := ⟨"worst_offsets", topS 7, ["periods"], ["periods", "beat", "offsets", "period"], d9, "worst_offsets", none⟩
def g10 : FI := ⟨"_age_below", topS 8, ["chain", "bound"], ["chain", "bound", "greatest", "act", "age"], d10, "_age_below", none⟩
def g11 : FI := ⟨"best_offsets", topS 9, ["periods"], ["periods", "rows", "period", "row", "best", "bound", "age", "offset"], d11, "best_offsets", none⟩
def g12 : FI := ⟨"_law_gcd", topS 15, ["a", "b"], ["a", "b", "k"], d12, "_law_gcd", none⟩
def g13 : FI := ⟨"_law_lcm", topS 16, ["a", "b"], ["a", "b"], d13, "_law_lcm", none⟩
def g14 : FI := ⟨"_law_chain", topS 17, ["row", "at", "most"], ["row", "at", "most", "top", "chain", "span", "k", "period"], d14, "_law_chain", none⟩
def g15 : FI := ⟨"_law_chain_span", topS 18, ["chain"], ["chain", "span", "period", "offset"], d15, "_law_chain_span", none⟩
def g16 : FI := ⟨"_law_held", topS 19, ["chain", "many"], ["chain", "many", "start", "period", "offset", "taken", "held", "beat", "signal", "k", "sampler"], d16, "_law_held", none⟩
def g17 : FI := ⟨"_law_source", topS 20, ["chain", "beat"], ["chain", "beat", "k", "period", "offset"], d17, "_law_source", none⟩
def g18 : FI := ⟨"_law_act_age", topS 21, ["chain", "enough"], ["chain", "enough", "period", "offset", "greatest", "k", "act"], d18, "_law_act_age", none⟩
def g19 : FI := ⟨"_law_run_ages", topS 22, ["chain"], ["chain", "span", "held", "period", "offset", "acts", "beat"], d19, "_law_run_ages", none⟩
def g20 : FI := ⟨"_law_with", topS 23, ["periods", "offsets"], ["periods", "offsets", "k"], d20, "_law_with", none⟩
def g21 : FI := ⟨"_law_best", topS 24, ["periods"], ["periods", "rows", "period", "longer", "start", "best", "least", "offsets", "age", "offset"], d21, "_law_best", none⟩
def g22 : FI := ⟨"_law_periods", topS 25, ["row", "at"], ["row", "at", "most", "periods", "product", "k", "period", "by"], d22, "_law_periods", none⟩
def g23 : FI := ⟨"law", topS 26, ["script"], ["script", "row", "chain", "periods", "total", "worst", "late", "act_age", "held_age", "few", "best", "least", "bound", "period", "offset", "part", "k"], d23, "law", none⟩
def fs : List FI := [g0, g1, g2, g3, g4, g5, g6, g7, g8, g9, g10, g11, g12, g13, g14, g15, g16, g17, g18, g19, g20, g21, g22, g23]
def bt : List Str := ["all", "bool", "int", "isinstance", "len", "list", "max", "min", "range", "reversed", "str", "sum", "tuple", "zip"]
def lib : List (Str × String) := [("lcm", "math.lcm")]
def tb : Tb := ⟨mtT fs, [], [], [], 0⟩
theorem ok0 : chk (fnT fs) bt lib tb g0 = true := by decide +kernel
theorem ok1 : chk (fnT fs) bt lib tb g1 = true := by decide +kernel
theorem ok2 : chk (fnT fs) bt lib tb g2 = true := by decide +kernel
theorem ok3 : chk (fnT fs) bt lib tb g3 = true := by decide +kernel
theorem ok4 : chk (fnT fs) bt lib tb g4 = true := by decide +kernel
theorem ok5 : chk (fnT fs) bt lib tb g5 = true := by decide +kernel
theorem ok6 : chk (fnT fs) bt lib tb g6 = true := by decide +kernel
theorem ok7 : chk (fnT fs) bt lib tb g7 = true := by decide +kernel
theorem ok8 : chk (fnT fs) bt lib tb g8 = true := by decide +kernel
theorem ok9 : chk (fnT fs) bt lib tb g9 = true := by decide +kernel
theorem ok10 : chk (fnT fs) bt lib tb g10 = true := by decide +kernel
theorem ok11 : chk (fnT fs) bt lib tb g11 = true := by decide +kernel
theorem ok12 : chk (fnT fs) bt lib tb g12 = true := by decide +kernel
theorem ok13 : chk (fnT fs) bt lib tb g13 = true := by decide +kernel
theorem ok14 : chk (fnT fs) bt lib tb g14 = true := by decide +kernel
theorem ok15 : chk (fnT fs) bt lib tb g15 = true := by decide +kernel
theorem ok16 : chk (fnT fs) bt lib tb g16 = true := by decide +kernel
theorem ok17 : chk (fnT fs) bt lib tb g17 = true := by decide +kernel
theorem ok18 : chk (fnT fs) bt lib tb g18 = true := by decide +kernel
theorem ok19 : chk (fnT fs) bt lib tb g19 = true := by decide +kernel
theorem ok20 : chk (fnT fs) bt lib tb g20 = true := by decide +kernel
theorem ok21 : chk (fnT fs) bt lib tb g21 = true := by decide +kernel
theorem ok22 : chk (fnT fs) bt lib tb g22 = true := by decide +kernel
theorem ok23 : chk (fnT fs) bt lib tb g23 = true := by decide +kernel
theorem ok : fs.all (chk (fnT fs) bt lib tb) = true := by
  unfold fs
  simp only [List.all_cons, List.all_nil, Bool.and_true, Bool.and_eq_true]
  exact ⟨ok0, ok1, ok2, ok3, ok4, ok5, ok6, ok7, ok8, ok9, ok10, ok11, ok12, ok13, ok14, ok15, ok16, ok17, ok18, ok19, ok20, ok21, ok22, ok23⟩
theorem all_mk {l : PySem.W.OpenLaw} {w : World} {K : PySem.W.Frag} {h : Heap} {mg : Str → Option Value} {fa : Addr} {n : Nat} (X : K.In h) (G : h.Ns mainGlobals mg) (hfa : mg "law" = some (.ref fa))
    (hrun : ∀ ns : List Int, ns.length ≤ 63 → run Pd n 23 [fz (iD ns)] = some (.v (.bool true)))
    {f0 : Addr} {od0 an0 : Option Addr} {sl0 : Array (Option Value)} {oc0 kV0 dc0 pm0 cd0 ct0 : Value}
    {f1 : Addr} {od1 an1 : Option Addr} {sl1 : Array (Option Value)} {oc1 kV1 dc1 pm1 cd1 ct1 : Value}
    {f2 : Addr} {od2 an2 : Option Addr} {sl2 : Array (Option Value)} {oc2 kV2 dc2 pm2 cd2 ct2 : Value}
    {f3 : Addr} {od3 an3 : Option Addr} {sl3 : Array (Option Value)} {oc3 kV3 dc3 pm3 cd3 ct3 : Value}
    {f4 : Addr} {od4 an4 : Option Addr} {sl4 : Array (Option Value)} {oc4 kV4 dc4 pm4 cd4 ct4 : Value}
    {f5 : Addr} {od5 an5 : Option Addr} {sl5 : Array (Option Value)} {oc5 kV5 dc5 pm5 cd5 ct5 : Value}
    {f6 : Addr} {od6 an6 : Option Addr} {sl6 : Array (Option Value)} {oc6 kV6 dc6 pm6 cd6 ct6 : Value}
    {f7 : Addr} {od7 an7 : Option Addr} {sl7 : Array (Option Value)} {oc7 kV7 dc7 pm7 cd7 ct7 : Value}
    {f8 : Addr} {od8 an8 : Option Addr} {sl8 : Array (Option Value)} {oc8 kV8 dc8 pm8 cd8 ct8 : Value}
    {f9 : Addr} {od9 an9 : Option Addr} {sl9 : Array (Option Value)} {oc9 kV9 dc9 pm9 cd9 ct9 : Value}
    {f10 : Addr} {od10 an10 : Option Addr} {sl10 : Array (Option Value)} {oc10 kV10 dc10 pm10 cd10 ct10 : Value}
    {f11 : Addr} {od11 an11 : Option Addr} {sl11 : Array (Option Value)} {oc11 kV11 dc11 pm11 cd11 ct11 : Value}
    {f12 : Addr} {od12 an12 : Option Addr} {sl12 : Array (Option Value)} {oc12 kV12 dc12 pm12 cd12 ct12 : Value}
    {f13 : Addr} {od13 an13 : Option Addr} {sl13 : Array (Option Value)} {oc13 kV13 dc13 pm13 cd13 ct13 : Value}
    {f14 : Addr} {od14 an14 : Option Addr} {sl14 : Array (Option Value)} {oc14 kV14 dc14 pm14 cd14 ct14 : Value}
    {f15 : Addr} {od15 an15 : Option Addr} {sl15 : Array (Option Value)} {oc15 kV15 dc15 pm15 cd15 ct15 : Value}
    {f16 : Addr} {od16 an16 : Option Addr} {sl16 : Array (Option Value)} {oc16 kV16 dc16 pm16 cd16 ct16 : Value}
    {f17 : Addr} {od17 an17 : Option Addr} {sl17 : Array (Option Value)} {oc17 kV17 dc17 pm17 cd17 ct17 : Value}
    {f18 : Addr} {od18 an18 : Option Addr} {sl18 : Array (Option Value)} {oc18 kV18 dc18 pm18 cd18 ct18 : Value}
    {f19 : Addr} {od19 an19 : Option Addr} {sl19 : Array (Option Value)} {oc19 kV19 dc19 pm19 cd19 ct19 : Value}
    {f20 : Addr} {od20 an20 : Option Addr} {sl20 : Array (Option Value)} {oc20 kV20 dc20 pm20 cd20 ct20 : Value}
    {f21 : Addr} {od21 an21 : Option Addr} {sl21 : Array (Option Value)} {oc21 kV21 dc21 pm21 cd21 ct21 : Value}
    {f22 : Addr} {od22 an22 : Option Addr} {sl22 : Array (Option Value)} {oc22 kV22 dc22 pm22 cd22 ct22 : Value}
    {f23 : Addr} {od23 an23 : Option Addr} {sl23 : Array (Option Value)} {oc23 kV23 dc23 pm23 cd23 ct23 : Value}
    (a0 : PySem.W.nsIn K mainGlobals "_law_mixed" = some (some (.ref f0)))
    (l0 : K.lookup f0 = some ⟨oc0, od0, .func (PySem.W.fnOf "_law_mixed" "_law_mixed" (defArgs g0.st) (defBody g0.st) (defScope g0.st) .none kV0 dc0 pm0 an0 cd0 ct0), sl0⟩) (c0 : PySem.W.codeIn K cd0 "_law_mixed" = true) (k0 : PySem.W.keepIn K (.ref f0) = true)
    (a1 : PySem.W.nsIn K mainGlobals "_law_row" = some (some (.ref f1)))
    (l1 : K.lookup f1 = some ⟨oc1, od1, .func (PySem.W.fnOf "_law_row" "_law_row" (defArgs g1.st) (defBody g1.st) (defScope g1.st) .none kV1 dc1 pm1 an1 cd1 ct1), sl1⟩) (c1 : PySem.W.codeIn K cd1 "_law_row" = true) (k1 : PySem.W.keepIn K (.ref f1) = true)
    (a2 : PySem.W.nsIn K mainGlobals "_law_is_int" = some (some (.ref f2)))
    (l2 : K.lookup f2 = some ⟨oc2, od2, .func (PySem.W.fnOf "_law_is_int" "_law_is_int" (defArgs g2.st) (defBody g2.st) (defScope g2.st) .none kV2 dc2 pm2 an2 cd2 ct2), sl2⟩) (c2 : PySem.W.codeIn K cd2 "_law_is_int" = true) (k2 : PySem.W.keepIn K (.ref f2) = true)
    (a3 : PySem.W.nsIn K mainGlobals "_law_like" = some (some (.ref f3)))
    (l3 : K.lookup f3 = some ⟨oc3, od3, .func (PySem.W.fnOf "_law_like" "_law_like" (defArgs g3.st) (defBody g3.st) (defScope g3.st) .none kV3 dc3 pm3 an3 cd3 ct3), sl3⟩) (c3 : PySem.W.codeIn K cd3 "_law_like" = true) (k3 : PySem.W.keepIn K (.ref f3) = true)
    (a4 : PySem.W.nsIn K mainGlobals "_span" = some (some (.ref f4)))
    (l4 : K.lookup f4 = some ⟨oc4, od4, .func (PySem.W.fnOf "_span" "_span" (defArgs g4.st) (defBody g4.st) (defScope g4.st) .none kV4 dc4 pm4 an4 cd4 ct4), sl4⟩) (c4 : PySem.W.codeIn K cd4 "_span" = true) (k4 : PySem.W.keepIn K (.ref f4) = true)
    (a5 : PySem.W.nsIn K mainGlobals "source" = some (some (.ref f5)))
    (l5 : K.lookup f5 = some ⟨oc5, od5, .func (PySem.W.fnOf "source" "source" (defArgs g5.st) (defBody g5.st) (defScope g5.st) .none kV5 dc5 pm5 an5 cd5 ct5), sl5⟩) (c5 : PySem.W.codeIn K cd5 "source" = true) (k5 : PySem.W.keepIn K (.ref f5) = true)
    (a6 : PySem.W.nsIn K mainGlobals "_acts" = some (some (.ref f6)))
    (l6 : K.lookup f6 = some ⟨oc6, od6, .func (PySem.W.fnOf "_acts" "_acts" (defArgs g6.st) (defBody g6.st) (defScope g6.st) .none kV6 dc6 pm6 an6 cd6 ct6), sl6⟩) (c6 : PySem.W.codeIn K cd6 "_acts" = true) (k6 : PySem.W.keepIn K (.ref f6) = true)
    (a7 : PySem.W.nsIn K mainGlobals "greatest_act_age" = some (some (.ref f7)))
    (l7 : K.lookup f7 = some ⟨oc7, od7, .func (PySem.W.fnOf "greatest_act_age" "greatest_act_age" (defArgs g7.st) (defBody g7.st) (defScope g7.st) .none kV7 dc7 pm7 an7 cd7 ct7), sl7⟩) (c7 : PySem.W.codeIn K cd7 "greatest_act_age" = true) (k7 : PySem.W.keepIn K (.ref f7) = true)
    (a8 : PySem.W.nsIn K mainGlobals "greatest_held_age" = some (some (.ref f8)))
    (l8 : K.lookup f8 = some ⟨oc8, od8, .func (PySem.W.fnOf "greatest_held_age" "greatest_held_age" (defArgs g8.st) (defBody g8.st) (defScope g8.st) .none kV8 dc8 pm8 an8 cd8 ct8), sl8⟩) (c8 : PySem.W.codeIn K cd8 "greatest_held_age" = true) (k8 : PySem.W.keepIn K (.ref f8) = true)
    (a9 : PySem.W.nsIn K mainGlobals "worst_offsets" = some (some (.ref f9)))
    (l9 : K.lookup f9 = some ⟨oc9, od9, .func (PySem.W.fnOf "worst_offsets" "worst_offsets" (defArgs g9.st) (defBody g9.st) (defScope g9.st) .none kV9 dc9 pm9 an9 cd9 ct9), sl9⟩) (c9 : PySem.W.codeIn K cd9 "worst_offsets" = true) (k9 : PySem.W.keepIn K (.ref f9) = true)
    (a10 : PySem.W.nsIn K mainGlobals "_age_below" = some (some (.ref f10)))
    (l10 : K.lookup f10 = some ⟨oc10, od10, .func (PySem.W.fnOf "_age_below" "_age_below" (defArgs g10.st) (defBody g10.st) (defScope g10.st) .none kV10 dc10 pm10 an10 cd10 ct10), sl10⟩) (c10 : PySem.W.codeIn K cd10 "_age_below" = true) (k10 : PySem.W.keepIn K (.ref f10) = true)
    (a11 : PySem.W.nsIn K mainGlobals "best_offsets" = some (some (.ref f11)))
    (l11 : K.lookup f11 = some ⟨oc11, od11, .func (PySem.W.fnOf "best_offsets" "best_offsets" (defArgs g11.st) (defBody g11.st) (defScope g11.st) .none kV11 dc11 pm11 an11 cd11 ct11), sl11⟩) (c11 : PySem.W.codeIn K cd11 "best_offsets" = true) (k11 : PySem.W.keepIn K (.ref f11) = true)
    (a12 : PySem.W.nsIn K mainGlobals "_law_gcd" = some (some (.ref f12)))
    (l12 : K.lookup f12 = some ⟨oc12, od12, .func (PySem.W.fnOf "_law_gcd" "_law_gcd" (defArgs g12.st) (defBody g12.st) (defScope g12.st) .none kV12 dc12 pm12 an12 cd12 ct12), sl12⟩) (c12 : PySem.W.codeIn K cd12 "_law_gcd" = true) (k12 : PySem.W.keepIn K (.ref f12) = true)
    (a13 : PySem.W.nsIn K mainGlobals "_law_lcm" = some (some (.ref f13)))
    (l13 : K.lookup f13 = some ⟨oc13, od13, .func (PySem.W.fnOf "_law_lcm" "_law_lcm" (defArgs g13.st) (defBody g13.st) (defScope g13.st) .none kV13 dc13 pm13 an13 cd13 ct13), sl13⟩) (c13 : PySem.W.codeIn K cd13 "_law_lcm" = true) (k13 : PySem.W.keepIn K (.ref f13) = true)
    (a14 : PySem.W.nsIn K mainGlobals "_law_chain" = some (some (.ref f14)))
    (l14 : K.lookup f14 = some ⟨oc14, od14, .func (PySem.W.fnOf "_law_chain" "_law_chain" (defArgs g14.st) (defBody g14.st) (defScope g14.st) .none kV14 dc14 pm14 an14 cd14 ct14), sl14⟩) (c14 : PySem.W.codeIn K cd14 "_law_chain" = true) (k14 : PySem.W.keepIn K (.ref f14) = true)
    (a15 : PySem.W.nsIn K mainGlobals "_law_chain_span" = some (some (.ref f15)))
    (l15 : K.lookup f15 = some ⟨oc15, od15, .func (PySem.W.fnOf "_law_chain_span" "_law_chain_span" (defArgs g15.st) (defBody g15.st) (defScope g15.st) .none kV15 dc15 pm15 an15 cd15 ct15), sl15⟩) (c15 : PySem.W.codeIn K cd15 "_law_chain_span" = true) (k15 : PySem.W.keepIn K (.ref f15) = true)
    (a16 : PySem.W.nsIn K mainGlobals "_law_held" = some (some (.ref f16)))
    (l16 : K.lookup f16 = some ⟨oc16, od16, .func (PySem.W.fnOf "_law_held" "_law_held" (defArgs g16.st) (defBody g16.st) (defScope g16.st) .none kV16 dc16 pm16 an16 cd16 ct16), sl16⟩) (c16 : PySem.W.codeIn K cd16 "_law_held" = true) (k16 : PySem.W.keepIn K (.ref f16) = true)
    (a17 : PySem.W.nsIn K mainGlobals "_law_source" = some (some (.ref f17)))
    (l17 : K.lookup f17 = some ⟨oc17, od17, .func (PySem.W.fnOf "_law_source" "_law_source" (defArgs g17.st) (defBody g17.st) (defScope g17.st) .none kV17 dc17 pm17 an17 cd17 ct17), sl17⟩) (c17 : PySem.W.codeIn K cd17 "_law_source" = true) (k17 : PySem.W.keepIn K (.ref f17) = true)
    (a18 : PySem.W.nsIn K mainGlobals "_law_act_age" = some (some (.ref f18)))
    (l18 : K.lookup f18 = some ⟨oc18, od18, .func (PySem.W.fnOf "_law_act_age" "_law_act_age" (defArgs g18.st) (defBody g18.st) (defScope g18.st) .none kV18 dc18 pm18 an18 cd18 ct18), sl18⟩) (c18 : PySem.W.codeIn K cd18 "_law_act_age" = true) (k18 : PySem.W.keepIn K (.ref f18) = true)
    (a19 : PySem.W.nsIn K mainGlobals "_law_run_ages" = some (some (.ref f19)))
    (l19 : K.lookup f19 = some ⟨oc19, od19, .func (PySem.W.fnOf "_law_run_ages" "_law_run_ages" (defArgs g19.st) (defBody g19.st) (defScope g19.st) .none kV19 dc19 pm19 an19 cd19 ct19), sl19⟩) (c19 : PySem.W.codeIn K cd19 "_law_run_ages" = true) (k19 : PySem.W.keepIn K (.ref f19) = true)
    (a20 : PySem.W.nsIn K mainGlobals "_law_with" = some (some (.ref f20)))
    (l20 : K.lookup f20 = some ⟨oc20, od20, .func (PySem.W.fnOf "_law_with" "_law_with" (defArgs g20.st) (defBody g20.st) (defScope g20.st) .none kV20 dc20 pm20 an20 cd20 ct20), sl20⟩) (c20 : PySem.W.codeIn K cd20 "_law_with" = true) (k20 : PySem.W.keepIn K (.ref f20) = true)
    (a21 : PySem.W.nsIn K mainGlobals "_law_best" = some (some (.ref f21)))
    (l21 : K.lookup f21 = some ⟨oc21, od21, .func (PySem.W.fnOf "_law_best" "_law_best" (defArgs g21.st) (defBody g21.st) (defScope g21.st) .none kV21 dc21 pm21 an21 cd21 ct21), sl21⟩) (c21 : PySem.W.codeIn K cd21 "_law_best" = true) (k21 : PySem.W.keepIn K (.ref f21) = true)
    (a22 : PySem.W.nsIn K mainGlobals "_law_periods" = some (some (.ref f22)))
    (l22 : K.lookup f22 = some ⟨oc22, od22, .func (PySem.W.fnOf "_law_periods" "_law_periods" (defArgs g22.st) (defBody g22.st) (defScope g22.st) .none kV22 dc22 pm22 an22 cd22 ct22), sl22⟩) (c22 : PySem.W.codeIn K cd22 "_law_periods" = true) (k22 : PySem.W.keepIn K (.ref f22) = true)
    (a23 : PySem.W.nsIn K mainGlobals "law" = some (some (.ref f23)))
    (l23 : K.lookup f23 = some ⟨oc23, od23, .func (PySem.W.fnOf "law" "law" (defArgs g23.st) (defBody g23.st) (defScope g23.st) .none kV23 dc23 pm23 an23 cd23 ct23), sl23⟩) (c23 : PySem.W.codeIn K cd23 "law" = true) (k23 : PySem.W.keepIn K (.ref f23) = true)
    (z0 : PySem.W.nsIn K mainGlobals "all" = some none)
    (z1 : PySem.W.nsIn K mainGlobals "bool" = some none)
    (z2 : PySem.W.nsIn K mainGlobals "int" = some none)
    (z3 : PySem.W.nsIn K mainGlobals "isinstance" = some none)
    (z4 : PySem.W.nsIn K mainGlobals "len" = some none)
    (z5 : PySem.W.nsIn K mainGlobals "list" = some none)
    (z6 : PySem.W.nsIn K mainGlobals "max" = some none)
    (z7 : PySem.W.nsIn K mainGlobals "min" = some none)
    (z8 : PySem.W.nsIn K mainGlobals "range" = some none)
    (z9 : PySem.W.nsIn K mainGlobals "reversed" = some none)
    (z10 : PySem.W.nsIn K mainGlobals "str" = some none)
    (z11 : PySem.W.nsIn K mainGlobals "sum" = some none)
    (z12 : PySem.W.nsIn K mainGlobals "tuple" = some none)
    (z13 : PySem.W.nsIn K mainGlobals "zip" = some none)
    (y0 : PySem.W.nsIn K mainGlobals "lcm" = some (some (.builtin "math.lcm")))
    : ∃ fd : FuncData, (∀ (s : Shared) (v : Value), BindsTo s fd ⟨[v], []⟩ [("script", v)]) ∧ ∀ base : Heap, K.In base → base.Ns mainGlobals mg → FnOk l.prog w K mg base CX0 n fa fd ["script"] (spLaw K) := by
  have e := hfa.symm.trans (PySem.W.mg_of X G a23)
  cases e
  have F0 := fun_mk (st := g0.st) l0 c0 k0
  have B0 := F0.binds (ps := g0.ps) fun _ _ _ _ _ _ us hl => match us, hl with | [_, _], _ => rfl
  have F1 := fun_mk (st := g1.st) l1 c1 k1
  have B1 := F1.binds (ps := g1.ps) fun _ _ _ _ _ _ us hl => match us, hl with | [_, _], _ => rfl
  have F2 := fun_mk (st := g2.st) l2 c2 k2
  have B2 := F2.binds (ps := g2.ps) fun _ _ _ _ _ _ us hl => match us, hl with | [_], _ => rfl
  have F3 := fun_mk (st := g3.st) l3 c3 k3
  have B3 := F3.binds (ps := g3.ps) fun _ _ _ _ _ _ us hl => match us, hl with | [_, _], _ => rfl
  have F4 := fun_mk (st := g4.st) l4 c4 k4
  have B4 := F4.binds (ps := g4.ps) fun _ _ _ _ _ _ us hl => match us, hl with | [_], _ => rfl
  have F5 := fun_mk (st := g5.st) l5 c5 k5
  have B5 := F5.binds (ps := g5.ps) fun _ _ _ _ _ _ us hl => match us, hl with | [_, _], _ => rfl
  have F6 := fun_mk (st := g6.st) l6 c6 k6
  have B6 := F6.binds (ps := g6.ps) fun _ _ _ _ _ _ us hl => match us, hl with | [_], _ => rfl
  have F7 := fun_mk (st := g7.st) l7 c7 k7
  have B7 := F7.binds (ps := g7.ps) fun _ _ _ _ _ _ us hl => match us, hl with | [_], _ => rfl
  have F8 := fun_mk (st := g8.st) l8 c8 k8
  have B8 := F8.binds (ps := g8.ps) fun _ _ _ _ _ _ us hl => match us, hl with | [_], _ => rfl
  have F9 := fun_mk (st := g9.st) l9 c9 k9
  have B9 := F9.binds (ps := g9.ps) fun _ _ _ _ _ _ us hl => match us, hl with | [_], _ => rfl
  have F10 := fun_mk (st := g10.st) l10 c10 k10
  have B10 := F10.binds (ps := g10.ps) fun _ _ _ _ _ _ us hl => match us, hl with | [_, _], _ => rfl
  have F11 := fun_mk (st := g11.st) l11 c11 k11
  have B11 := F11.binds (ps := g11.ps) fun _ _ _ _ _ _ us hl => match us, hl with | [_], _ => rfl
  have F12 := fun_mk (st := g12.st) l12 c12 k12
  have B12 := F12.binds (ps := g12.ps) fun _ _ _ _ _ _ us hl => match us, hl with | [_, _], _ => rfl
  have F13 := fun_mk (st := g13.st) l13 c13 k13
  have B13 := F13.binds (ps := g13.ps) fun _ _ _ _ _ _ us hl => match us, hl with | [_, _], _ => rfl
  have F14 := fun_mk (st := g14.st) l14 c14 k14
  have B14 := F14.binds (ps := g14.ps) fun _ _ _ _ _ _ us hl => match us, hl with | [_, _, _], _ => rfl
  have F15 := fun_mk (st := g15.st) l15 c15 k15
  have B15 := F15.binds (ps := g15.ps) fun _ _ _ _ _ _ us hl => match us, hl with | [_], _ => rfl
  have F16 := fun_mk (st := g16.st) l16 c16 k16
  have B16 := F16.binds (ps := g16.ps) fun _ _ _ _ _ _ us hl => match us, hl with | [_, _], _ => rfl
  have F17 := fun_mk (st := g17.st) l17 c17 k17
  have B17 := F17.binds (ps := g17.ps) fun _ _ _ _ _ _ us hl => match us, hl with | [_, _], _ => rfl
  have F18 := fun_mk (st := g18.st) l18 c18 k18
  have B18 := F18.binds (ps := g18.ps) fun _ _ _ _ _ _ us hl => match us, hl with | [_, _], _ => rfl
  have F19 := fun_mk (st := g19.st) l19 c19 k19
  have B19 := F19.binds (ps := g19.ps) fun _ _ _ _ _ _ us hl => match us, hl with | [_], _ => rfl
  have F20 := fun_mk (st := g20.st) l20 c20 k20
  have B20 := F20.binds (ps := g20.ps) fun _ _ _ _ _ _ us hl => match us, hl with | [_, _], _ => rfl
  have F21 := fun_mk (st := g21.st) l21 c21 k21
  have B21 := F21.binds (ps := g21.ps) fun _ _ _ _ _ _ us hl => match us, hl with | [_], _ => rfl
  have F22 := fun_mk (st := g22.st) l22 c22 k22
  have B22 := F22.binds (ps := g22.ps) fun _ _ _ _ _ _ us hl => match us, hl with | [_, _], _ => rfl
  have F23 := fun_mk (st := g23.st) l23 c23 k23
  have B23 := F23.binds (ps := g23.ps) fun _ _ _ _ _ _ us hl => match us, hl with | [_], _ => rfl
  have hv : Have K mg fs bt lib tb := ⟨(fnh_cons (fi_fn F0 (PySem.W.mg_of X G a0) B0 rfl) (fnh_cons (fi_fn F1 (PySem.W.mg_of X G a1) B1 rfl) (fnh_cons (fi_fn F2 (PySem.W.mg_of X G a2) B2 rfl) (fnh_cons (fi_fn F3 (PySem.W.mg_of X G a3) B3 rfl) (fnh_cons (fi_fn F4 (PySem.W.mg_of X G a4) B4 rfl) (fnh_cons (fi_fn F5 (PySem.W.mg_of X G a5) B5 rfl) (fnh_cons (fi_fn F6 (PySem.W.mg_of X G a6) B6 rfl) (fnh_cons (fi_fn F7 (PySem.W.mg_of X G a7) B7 rfl) (fnh_cons (fi_fn F8 (PySem.W.mg_of X G a8) B8 rfl) (fnh_cons (fi_fn F9 (PySem.W.mg_of X G a9) B9 rfl) (fnh_cons (fi_fn F10 (PySem.W.mg_of X G a10) B10 rfl) (fnh_cons (fi_fn F11 (PySem.W.mg_of X G a11) B11 rfl) (fnh_cons (fi_fn F12 (PySem.W.mg_of X G a12) B12 rfl) (fnh_cons (fi_fn F13 (PySem.W.mg_of X G a13) B13 rfl) (fnh_cons (fi_fn F14 (PySem.W.mg_of X G a14) B14 rfl) (fnh_cons (fi_fn F15 (PySem.W.mg_of X G a15) B15 rfl) (fnh_cons (fi_fn F16 (PySem.W.mg_of X G a16) B16 rfl) (fnh_cons (fi_fn F17 (PySem.W.mg_of X G a17) B17 rfl) (fnh_cons (fi_fn F18 (PySem.W.mg_of X G a18) B18 rfl) (fnh_cons (fi_fn F19 (PySem.W.mg_of X G a19) B19 rfl) (fnh_cons (fi_fn F20 (PySem.W.mg_of X G a20) B20 rfl) (fnh_cons (fi_fn F21 (PySem.W.mg_of X G a21) B21 rfl) (fnh_cons (fi_fn F22 (PySem.W.mg_of X G a22) B22 rfl) (fnh_cons (fi_fn F23 (PySem.W.mg_of X G a23) B23 rfl) fnh_nil)))))))))))))))))))))))), (bts_cons (PySem.W.mg_none_of X G z0) (bts_cons (PySem.W.mg_none_of X G z1) (bts_cons (PySem.W.mg_none_of X G z2) (bts_cons (PySem.W.mg_none_of X G z3) (bts_cons (PySem.W.mg_none_of X G z4) (bts_cons (PySem.W.mg_none_of X G z5) (bts_cons (PySem.W.mg_none_of X G z6) (bts_cons (PySem.W.mg_none_of X G z7) (bts_cons (PySem.W.mg_none_of X G z8) (bts_cons (PySem.W.mg_none_of X G z9) (bts_cons (PySem.W.mg_none_of X G z10) (bts_cons (PySem.W.mg_none_of X G z11) (bts_cons (PySem.W.mg_none_of X G z12) (bts_cons (PySem.W.mg_none_of X G z13) bts_nil)))))))))))))), (lib_cons (PySem.W.mg_of X G y0) lib_nil), fun _ _ _ _ h => h, cls_nil, fls_nil, csts_nil⟩
  exact ⟨_, fun s v => .of_eq rfl, fun base _ _ => law_fn hv ok (hP_of (r := []) rfl) (fun _ _ h => by cases h) (j := 23) (g := g23) rfl rfl hrun F23⟩
end Lw
open PySem PySem.W PyProof.Rows
set_option maxHeartbeats 0 in
theorem PySem.Challenge.cw_withinage_k88_whole_offsets_holds : PySem.Challenge.rw_withinage_k88_whole_offsets.Holds := by
  w_on; o_law; k_head; (case hw => w_witness2)
  k_fill
  refine L2.walk_of (l := PySem.Challenge.rw_withinage_k88_whole_offsets) (n := 63) (k := 40) (x := "script") (CX := fun _ => L2.CX0) (sp := fun w => Wi.spLaw _) rfl (by decide) rfl ⟨rfl, by decide, by decide⟩ (fun w h Y => PySem.W.kIn_of Y) ?F (fun _ _ a ns hl ho hS => ⟨a, ns, rfl, hS, hl, ho, fun _ => rfl⟩) (fun _ _ _ _ _ h => h)
  case F =>
    intro w mg fa h KX G hmg
    refine' Lw.all_mk KX G hmg Lw.run_law ?a0 ?l0 ?c0 ?k0 ?a1 ?l1 ?c1 ?k1 ?a2 ?l2 ?c2 ?k2 ?a3 ?l3 ?c3 ?k3 ?a4 ?l4 ?c4 ?k4 ?a5 ?l5 ?c5 ?k5 ?a6 ?l6 ?c6 ?k6 ?a7 ?l7 ?c7 ?k7 ?a8 ?l8 ?c8 ?k8 ?a9 ?l9 ?c9 ?k9 ?a10 ?l10 ?c10 ?k10 ?a11 ?l11 ?c11 ?k11 ?a12 ?l12 ?c12 ?k12 ?a13 ?l13 ?c13 ?k13 ?a14 ?l14 ?c14 ?k14 ?a15 ?l15 ?c15 ?k15 ?a16 ?l16 ?c16 ?k16 ?a17 ?l17 ?c17 ?k17 ?a18 ?l18 ?c18 ?k18 ?a19 ?l19 ?c19 ?k19 ?a20 ?l20 ?c20 ?k20 ?a21 ?l21 ?c21 ?k21 ?a22 ?l22 ?c22 ?k22 ?a23 ?l23 ?c23 ?k23 ?z0 ?z1 ?z2 ?z3 ?z4 ?z5 ?z6 ?z7 ?z8 ?z9 ?z10 ?z11 ?z12 ?z13 ?y0
    (case a0 => k_is); (case l0 => k_is); (case c0 => k_is); (case k0 => k_is); (case a1 => k_is); (case l1 => k_is); (case c1 => k_is); (case k1 => k_is); (case a2 => k_is); (case l2 => k_is); (case c2 => k_is); (case k2 => k_is); (case a3 => k_is); (case l3 => k_is); (case c3 => k_is); (case k3 => k_is); (case a4 => k_is); (case l4 => k_is); (case c4 => k_is); (case k4 => k_is); (case a5 => k_is); (case l5 => k_is); (case c5 => k_is); (case k5 => k_is); (case a6 => k_is); (case l6 => k_is); (case c6 => k_is); (case k6 => k_is); (case a7 => k_is); (case l7 => k_is); (case c7 => k_is); (case k7 => k_is); (case a8 => k_is); (case l8 => k_is); (case c8 => k_is); (case k8 => k_is); (case a9 => k_is); (case l9 => k_is); (case c9 => k_is); (case k9 => k_is); (case a10 => k_is); (case l10 => k_is); (case c10 => k_is); (case k10 => k_is); (case a11 => k_is); (case l11 => k_is); (case c11 => k_is); (case k11 => k_is); (case a12 => k_is); (case l12 => k_is); (case c12 => k_is); (case k12 => k_is); (case a13 => k_is); (case l13 => k_is); (case c13 => k_is); (case k13 => k_is); (case a14 => k_is); (case l14 => k_is); (case c14 => k_is); (case k14 => k_is); (case a15 => k_is); (case l15 => k_is); (case c15 => k_is); (case k15 => k_is); (case a16 => k_is); (case l16 => k_is); (case c16 => k_is); (case k16 => k_is); (case a17 => k_is); (case l17 => k_is); (case c17 => k_is); (case k17 => k_is); (case a18 => k_is); (case l18 => k_is); (case c18 => k_is); (case k18 => k_is); (case a19 => k_is); (case l19 => k_is); (case c19 => k_is); (case k19 => k_is); (case a20 => k_is); (case l20 => k_is); (case c20 => k_is); (case k20 => k_is); (case a21 => k_is); (case l21 => k_is); (case c21 => k_is); (case k21 => k_is); (case a22 => k_is); (case l22 => k_is); (case c22 => k_is); (case k22 => k_is); (case a23 => k_is); (case l23 => k_is); (case c23 => k_is); (case k23 => k_is); (case z0 => k_is); (case z1 => k_is); (case z2 => k_is); (case z3 => k_is); (case z4 => k_is); (case z5 => k_is); (case z6 => k_is); (case z7 => k_is); (case z8 => k_is); (case z9 => k_is); (case z10 => k_is); (case z11 => k_is); (case z12 => k_is); (case z13 => k_is); (case y0 => k_is)
