import PyProof.Rows.All
import Wide.All
import OpenK.AllK
import Wide.FinOn
import HandS.ForMost
import KE.SortData
import KE.KMathGC
import KE.DataMinMax
import HandS.Walk
import HandS.Wide
import HandS.Gcd
import HandS.TupAny
import HandS.TupMul
import HandS.TupLen
import HandS.Style
import HandS.IsInst
import HandS.Deep
import KE.KDictCopyH
import PyProof.Rows.InDataRows
import HandS.More
import KE.GoesEnum
import KE.GoesMore
import HandS.Zip
import HandS.ListItems
import HandS.TryOnly
import HandS.DictComp
import HandS.Conv
import HandS.Codes
import HandS.WideMore
import HandS.Defaults
import HandS.Ends
import HandS.EndBits
import HandS.HeadEnd
import HandS.HeadHook1
import HandS.HeadHook2
import HandS.Head0
import HandS.Head1
import HandS.Head2
import HandS.Head3
import PySem.Challenge.RW_rowhidden_k22_main_noise_moved_and_mirro
set_option Elab.async false
set_option linter.all false
set_option maxRecDepth 100000
/-! PLe: a small language for the program's defs, and its evaluator in plain Lean. -/
namespace PL
open PySem PySem.Spec PyProof.Rows L2

abbrev D := PyData

/-! ### the language -/
inductive Cp | eq | ne | lt | le | gt | ge | isin | notin
  deriving DecidableEq
inductive Op2 | add | sub | mul | fdiv | mod | pow
  deriving DecidableEq
inductive Bi | len | abs | int | gcd | lcm | comb | sum | all | any | sorted | tuple | list | dict | max | min
  deriving DecidableEq
inductive Pat
  | v (i : Nat)
  | nil
  | cons (p : Pat) (ps : Pat)
mutual
inductive Ex
  | v (i : Nat) | non | bl (b : Bool) | int (z : Int) | str (x : Str)
  | g (x : Str)
  | op (o : Op2) (a b : Ex)
  | neg (a : Ex)
  | cmp (c : Cp) (a b : Ex)
  | chain (c1 c2 : Cp) (a b d : Ex)
  | chain3 (c1 c2 c3 : Cp) (a b d e : Ex)
  | lrng (a : Ex)
  | isN (a : Ex) | notN (a : Ex)
  | and_ (a b : Ex) | or_ (a b : Ex) | not_ (a : Ex)
  | ite (c a b : Ex)
  | call (f : Str) (as : Exs)
  | bi (f : Bi) (as : Exs)
  | isi (a : Ex) (t : String)
  | tup (as : Exs) | lst (as : Exs)
  | ix (a b : Ex) | sl (a : Ex) (lo hi : Ox) | rev (a : Ex)
  | lc (own : List Nat) (elt : Ex) (p : Pat) (it : Iu) (cond : Ox)
  | dc (own : List Nat) (k v : Ex) (p : Pat) (it : Iu) (cond : Ox)
  | get (a k d : Ex)
  | lvals (a : Ex)
  | oix (i : Nat) (k : Ex) | oget (i : Nat) (k d : Ex) | oin (i : Nat) (neg : Bool) (k : Ex) | olen (i : Nat)
inductive Exs
  | nil | cons (a : Ex) (as : Exs)
inductive Ox
  | non | some (a : Ex)
inductive Iu
  | seq (a : Ex) | rng1 (a : Ex) | rng2 (a b : Ex) | rng3 (a b c : Ex) | enum (a : Ex) | zip (a b : Ex) | vals (a : Ex) | items (a : Ex)
end
/-- what is assigned: a value, or a new list or dict of the def's own -/
inductive Rx | ex (e : Ex) | nl (as : Exs) | nd | nd2 (k1 v1 k2 v2 : Ex)
mutual
inductive St
  | asg (p : Pat) (e : Ex)
  | new (i : Nat) (r : Rx)
  | par (i j : Nat) (a b : Rx)
  | par3 (i j k : Nat) (a b c : Rx)
  | aug (i : Nat) (o : Op2) (e : Ex)
  | app (i : Nat) (e : Ex)
  | put (i : Nat) (k e : Ex)
  | ife (c : Ex) (a b : Ss)
  | for_ (p : Pat) (it : Iu) (body : Ss)
  | whl (c : Ex) (body : Ss)
  | ret (e : Ex) | retN | ex (e : Ex) | raise_ | pass | brk | cont
  | fz (i : Nat) (s : St)
inductive Ss
  | nil | cons (s : St) (ss : Ss)
end

/-! ### operations on data -/
def szOk (n : Nat) : Bool := decide (n ≤ sizeLine)
def opD : Op2 → D → D → Option D
  | .add, .int a, .int b => some (.int (a + b))
  | .add, .tuple a, .tuple b => if szOk (a.length + b.length) then some (.tuple (a ++ b)) else none
  | .add, .list a, .list b => if szOk (a.length + b.length) then some (.list (a ++ b)) else none
  | .sub, .int a, .int b => some (.int (a - b))
  | .mul, .int a, .int b => if a.natAbs.log2 + b.natAbs.log2 < 1000000 then some (.int (a * b)) else none
  | .mul, .list a, .int k => if 0 ≤ k ∧ k < 2 ^ 63 ∧ szOk (a.length * k.toNat) then some (.list (List.replicate k.toNat a).flatten) else none
  | .mul, .tuple a, .int k => if a.isEmpty = false ∧ 2 ≤ k ∧ k ≤ 1000 ∧ a.length ≤ 1000 then some (.tuple (List.replicate k.toNat a).flatten) else none
  | .fdiv, .int a, .int b => if 0 < b ∧ b.natAbs.log2 < 9000 then some (.int (a / b)) else none
  | .mod, .int a, .int b => if 0 < b then some (.int (a % b)) else none
  | .pow, .int a, .int b => if 0 ≤ b ∧ b ≤ 1000000 ∧ a.natAbs < 2 ^ 64 then some (.int (a ^ b.toNat)) else none
  | _, _, _ => none
def allInts : List D → Option (List Int)
  | [] => some []
  | .int a :: r => (allInts r).map (a :: ·)
  | _ :: _ => none
def allBools : List D → Option (List Bool)
  | [] => some []
  | .bool a :: r => (allBools r).map (a :: ·)
  | _ :: _ => none
/-- a key of a dict -/
def keyOf : D → Option Key
  | .int a => some (.inl a)
  | .str x => some (.inr x)
  | _ => none
def keysOf : List D → Option (List Key)
  | [] => some []
  | d :: r => (keyOf d).bind fun k => (keysOf r).map (k :: ·)
def ltD : D → D → Option Bool
  | .int a, .int b => some (decide (a < b))
  | .tuple a, .tuple b => (allInts a).bind fun xs => (allInts b).map fun ys => HT.lexLt xs ys
  | _, _ => none
/-- the kind of a dict by its key -/
inductive Kd | k (x : Key) | t (x : List Key) | b (x : Bool)
  deriving DecidableEq
def kdOf (T : List D) : D → Option Kd
  | .int a => some (.k (.inl a))
  | .str x => some (.k (.inr x))
  | .bool x => some (.b x)
  | .tuple ds => if T.any (fun t => PyData.eqv t (.tuple ds)) then none else (keysOf ds).map Kd.t
  | _ => none
def Kd.same : Kd → Kd → Bool
  | .k _, .k _ => true
  | .t _, .t _ => true
  | .b _, .b _ => true
  | _, _ => false
/-- all keys of a dict are of the kind of k -/
def kdAll (T : List D) (k : Kd) : List (D × D) → Bool
  | [] => true
  | p :: r => (match kdOf T p.1 with | some q => q.same k | none => false) && kdAll T k r
def lookD (T : List D) (kvs : List (D × D)) (k : Kd) : Option D :=
  match kvs with
  | [] => none
  | p :: r => if kdOf T p.1 = some k then some p.2 else lookD T r k
def putD (T : List D) (kvs : List (D × D)) (k : D) (q : Kd) (v : D) : List (D × D) :=
  if (kvs.any fun p => decide (kdOf T p.1 = some q)) = true then kvs.map (fun p => if kdOf T p.1 = some q then (p.1, v) else p) else kvs ++ [(k, v)]
def Kd.isB : Kd → Bool
  | .b _ => true
  | _ => false
def Kd.isT : Kd → Bool
  | .t _ => true
  | _ => false
/-- a key that may be asked for or stored -/
def keyK (T : List D) (kvs : List (D × D)) (k : D) : Option Kd :=
  (kdOf T k).bind fun q => if !q.isB && kdAll T q kvs then some q else none
/-- look-up with the kinds held, in a dict that stays: none where it is stuck -/
def getK (T : List D) (kvs : List (D × D)) (k : D) : Option (Option D) :=
  (keyK T kvs k).bind fun q => if q.isT && kvs.isEmpty then none else some (lookD T kvs q)
def cmpD (T : List D) : Cp → D → D → Option Bool
  | .eq, a, b => if SeqAt.shaped a && SeqAt.shaped b then some (PyData.eqv a b) else none
  | .ne, a, b => if SeqAt.shaped a && SeqAt.shaped b then some (!PyData.eqv a b) else none
  | .lt, a, b => ltD a b
  | .le, .int a, .int b => some (decide (a ≤ b))
  | .gt, .int a, .int b => some (decide (b < a))
  | .ge, .int a, .int b => some (decide (b ≤ a))
  | .isin, k, .dict kvs => (getK T kvs k).map Option.isSome
  | .notin, k, .dict kvs => (getK T kvs k).map fun o => !o.isSome
  | .isin, k, .tuple ds => if SeqAt.shaped k && SeqAt.shaped (.tuple ds) then some (ds.any fun z => PyData.eqv z k) else none
  | .notin, k, .tuple ds => if SeqAt.shaped k && SeqAt.shaped (.tuple ds) then some (!ds.any fun z => PyData.eqv z k) else none
  | _, _, _ => none
/-- no key is a truth value; all keys are numbers or texts -/
def nB (kvs : List (D × D)) : Bool := kvs.all fun p => match p.1 with | .bool _ => false | _ => true
def kK (kvs : List (D × D)) : Bool := kvs.all fun p => match p.1 with | .int _ => true | .str _ => true | _ => false
/-- what an iterable gives -/
def seqD : D → Option (List D)
  | .list ds => some ds
  | .tuple ds => some ds
  | .dict kvs => if nB kvs then some (kvs.map (·.1)) else none
  | _ => none
def toPairs : List D → Option (List (D × D))
  | [] => some []
  | .tuple [k, v] :: r => (toPairs r).map ((k, v) :: ·)
  | _ :: _ => none
def dictOfPairs (T : List D) : List (D × D) → List (D × D) → Option (List (D × D))
  | acc, [] => some acc
  | acc, (k, v) :: r => (keyK T acc k).bind fun q => dictOfPairs T (putD T acc k q v) r
def isKd (T : List D) (d : D) : Bool := match kdOf T d with
  | some (.k _) => true
  | _ => false
def mkDict (T : List D) (l : List (D × D)) : Option D := if l.all (fun p => isKd T p.1) then (dictOfPairs T [] l).map PyData.dict else none
def sortOk (l : List D) : Bool := l.all (fun d => l.all fun e => PySem.W.alike d e) && (l.all (fun d => match d with | .tuple (_ :: _) => true | _ => false) || l.all (fun d => match d with | .none => false | .tuple _ => false | _ => true))
  && l.all (fun d => SeqAt.shaped d)
def sortD (l : List D) : Option D := if sortOk l then some (.list (l.mergeSort (PySem.W.dataLe false id))) else none
def sortI (l : List Int) : List Int := l.mergeSort fun a b => decide (a ≤ b)
def biD (T : List D) : Bi → List D → Option D
  | .len, [.list ds] => some (.int ds.length)
  | .len, [.tuple ds] => some (.int ds.length)
  | .len, [.dict ds] => some (.int ds.length)
  | .abs, [.int a] => some (.int (if a < 0 then -a else a))
  | .int, [.int a] => some (.int a)
  | .int, [.bool b] => some (.int (if b then 1 else 0))
  | .gcd, [.int a, .int b] => some (.int (Nat.gcd a.natAbs b.natAbs : Nat))
  | .lcm, [.int a, .int b] => if a.natAbs < 2 ^ 64 ∧ b.natAbs < 2 ^ 64 then some (.int (a.natAbs.lcm b.natAbs : Nat)) else none
  | .comb, [.int a, .int b] => if 0 ≤ a ∧ 0 ≤ b ∧ a ≤ 18000 then some (.int (PySem.W.mcComb a b)) else none
  | .sum, [.list ds] => (allInts ds).map fun ns => .int ns.sum
  | .all, [.list ds] => (allBools ds).map fun bs => .bool (bs.all id)
  | .any, [.list ds] => (allBools ds).map fun bs => .bool (bs.any id)
  | .sorted, [.list ds] => sortD ds
  | .sorted, [.dict kvs] => (allInts (kvs.map (·.1))).bind fun ks => if ks.length < 64 then some (.list ((sortI ks).map PyData.int)) else none
  | .tuple, [.list ds] => some (.tuple ds)
  | .list, [.list ds] => some (.list ds)
  | .list, [.tuple ds] => some (.list ds)
  | .dict, [.tuple ds] => if ds.isEmpty then none else (toPairs ds).bind (mkDict T)
  | .max, [.int a, .int b] => some (.int (if b > a then b else a))
  | .min, [.int a, .int b] => some (.int (if b < a then b else a))
  | .max, [.tuple ds] => (allInts ds).bind fun ns => match ns with
    | [] => none
    | n :: r => some (.int (r.foldl max n))
  | .min, [.tuple ds] => (allInts ds).bind fun ns => match ns with
    | [] => none
    | n :: r => some (.int (r.foldl min n))
  | _, _ => none
def ixD (T : List D) : D → D → Option D
  | .list ds, .int i => atI ds i
  | .tuple ds, .int i => atI ds i
  | .dict kvs, k => (getK T kvs k).bind id
  | _, _ => none
def cutD (xs : List D) (lo hi : Option Int) : List D := (xs.drop (HT.sIx xs.length 0 lo)).take (HT.sIx xs.length xs.length hi - HT.sIx xs.length 0 lo)
def slD : D → Option Int → Option Int → Option D
  | .list ds, lo, hi => some (.list (cutD ds lo hi))
  | .tuple ds, lo, hi => some (.tuple (cutD ds lo hi))
  | _, _, _ => none
def revD : D → Option D
  | .list ds => some (.list ds.reverse)
  | _ => none
def tyN : D → Option String
  | .none => some "NoneType"
  | .bool _ => some "bool"
  | .int _ => some "int"
  | .str _ => some "str"
  | .tuple _ => some "tuple"
  | .list _ => some "list"
  | .dict _ => none
def isTab : List (String × String × Bool) := [("NoneType", "int", false), ("NoneType", "bool", false), ("NoneType", "tuple", false), ("NoneType", "str", false), ("NoneType", "list", false), ("bool", "int", true), ("bool", "bool", true), ("bool", "tuple", false), ("bool", "str", false), ("bool", "list", false), ("int", "int", true), ("int", "bool", false), ("int", "tuple", false), ("int", "str", false), ("int", "list", false), ("str", "int", false), ("str", "bool", false), ("str", "tuple", false), ("str", "str", true), ("str", "list", false), ("tuple", "int", false), ("tuple", "bool", false), ("tuple", "tuple", true), ("tuple", "str", false), ("tuple", "list", false), ("list", "int", false), ("list", "bool", false), ("list", "tuple", false), ("list", "str", false), ("list", "list", true)]
def isiD (t : String) (d : D) : Option Bool := (tyN d).bind fun a => (isTab.find? fun q => q.1 == a && q.2.1 == t).map fun q => q.2.2
def enumD (ds : List D) : List D := ds.zipIdx.map fun p => .tuple [.int p.2, p.1]
def zipD (ds es : List D) : List D := (ds.zip es).map fun p => .tuple [p.1, p.2]
def rngD (a b : Int) : Option (List D) := if -(2 ^ 62) ≤ a ∧ a < 2 ^ 62 ∧ -(2 ^ 62) ≤ b ∧ b < 2 ^ 62 ∧ b - a ≤ 1000000 then some ((List.range (b - a).toNat).map fun i => .int (a + (i : Nat))) else none
def rngDn (a b : Int) : Option (List D) := if -(2 ^ 62) ≤ a ∧ a < 2 ^ 62 ∧ -(2 ^ 62) ≤ b ∧ b < 2 ^ 62 ∧ a - b ≤ 1000000 then some ((List.range (a - b).toNat).map fun i => .int (a + (i : Nat) * (-1))) else none

/-! ### the frame's slots -/
inductive Sl | un | fz (d : D) | ow (d : D)
abbrev En := List Sl
def En.get (ρ : En) (i : Nat) : Option D := match ρ[i]? with
  | some (.fz d) => some d
  | _ => none
def En.own (ρ : En) (i : Nat) : Option D := match ρ[i]? with
  | some (.ow d) => some d
  | _ => none
def wipeE (ρ : En) : List Nat → En
  | [] => ρ
  | v :: vs => (wipeE ρ vs).set v .un
/-- the items of what is unpacked -/
def unpD : D → Option (List D)
  | .tuple ds => some ds
  | .list ds => some ds
  | _ => none
def bindP : Pat → D → En → Option En
  | .v i, d, ρ => some (ρ.set i (.fz d))
  | .nil, d, ρ => match unpD d with
    | some [] => some ρ
    | _ => none
  | .cons p ps, d, ρ => match unpD d with
    | some (d1 :: ds) => (bindP p d1 ρ).bind fun ρ1 => bindP ps (.tuple ds) ρ1
    | _ => none
structure Gb where
  fns : Str → Option (List D → Option D)
  cst : Str → Option D
  tups : List D

/-! ### expressions -/
def compL (f : D → Option (Option D)) : List D → Option (List D)
  | [] => some []
  | d :: ds => (f d).bind fun o => match o with
    | none => compL f ds
    | some x => (compL f ds).map (x :: ·)
def compDK (T : List D) (f : D → Option (Option (D × D))) : List D → List (D × D) → Option (List (D × D))
  | [], acc => some acc
  | d :: ds, acc => (f d).bind fun o => match o with
    | none => compDK T f ds acc
    | some (k, v) => (kdOf T k).bind fun q => if kdAll T q acc then compDK T f ds (putD T acc k q v) else none
def asB (o : Option D) : Option Bool := match o with
  | some (.bool b) => some b
  | _ => none
def asI (o : Option D) : Option Int := match o with
  | some (.int b) => some b
  | _ => none
/-- a turn of a comprehension -/
def stepL (own : List Nat) (P : Pat) (fc : En → Option Bool) (fe : En → Option D) (ρ : En) (d : D) : Option (Option D) := (bindP P d (wipeE ρ own)).bind fun ρ1 => (fc ρ1).bind fun c => if c = true then (fe ρ1).map some else some none
def stepDK (own : List Nat) (P : Pat) (fc : En → Option Bool) (fk fv : En → Option D) (ρ : En) (d : D) : Option (Option (D × D)) := (bindP P d (wipeE ρ own)).bind fun ρ1 => (fc ρ1).bind fun c => if c = true then (fk ρ1).bind fun x => (fv ρ1).map fun y => some (x, y) else some none
def isNo : D → Bool
  | .none => true
  | _ => false
def dget (T : List D) (x y z : D) : Option D := match x with
  | .dict kvs => (getK T kvs y).map fun o => o.getD z
  | _ => none
def valsI : D → Option (List D)
  | .dict kvs => if kK kvs then some (kvs.map (·.2)) else none
  | _ => none
def itemsI : D → Option (List D)
  | .dict kvs => if kK kvs then some (kvs.map fun p => .tuple [p.1, p.2]) else none
  | _ => none
def enumI : D → Option (List D)
  | .list ds => some (enumD ds)
  | .tuple ds => some (enumD ds)
  | _ => none
def zipI : D → D → Option (List D)
  | .list ds, .list es => some (zipD ds es)
  | .tuple ds, .tuple es => some (zipD ds es)
  | _, _ => none
def lvalsI : D → Option D
  | .dict kvs => if kK kvs then some (.list (kvs.map (·.2))) else none
  | _ => none
def oixD (T : List D) : D → D → Option D
  | .list ds, .int z => atI ds z
  | .dict kvs, y => (getK T kvs y).bind id
  | _, _ => none
def oinD (T : List D) (n : Bool) : D → D → Option D
  | .dict kvs, y => (getK T kvs y).map fun o => .bool (n != o.isSome)
  | _, _ => none
def olenD : D → Option D
  | .list ds => some (.int ds.length)
  | .dict ds => some (.int ds.length)
  | _ => none
mutual
def ev (G : Gb) : Ex → En → Option D
  | .v i, ρ => ρ.get i
  | .non, _ => some .none
  | .bl b, _ => some (.bool b)
  | .int z, _ => some (.int z)
  | .str x, _ => some (.str x)
  | .g x, _ => G.cst x
  | .op o a b, ρ => (ev G a ρ).bind fun x => (ev G b ρ).bind fun y => opD o x y
  | .neg a, ρ => (asI (ev G a ρ)).map fun z => .int (-z)
  | .cmp c a b, ρ => (ev G a ρ).bind fun x => (ev G b ρ).bind fun y => (cmpD G.tups c x y).map PyData.bool
  | .chain c1 c2 a b d, ρ => (ev G a ρ).bind fun x => (ev G b ρ).bind fun y => (cmpD G.tups c1 x y).bind fun r => if r = true then (ev G d ρ).bind fun z => (cmpD G.tups c2 y z).map PyData.bool else some (.bool false)
  | .chain3 c1 c2 c3 a b d e, ρ => (ev G a ρ).bind fun x => (ev G b ρ).bind fun y => (cmpD G.tups c1 x y).bind fun r => if r = true then (ev G d ρ).bind fun z => (cmpD G.tups c2 y z).bind fun q => if q = true then (ev G e ρ).bind fun w => (cmpD G.tups c3 z w).map PyData.bool else some (.bool false) else some (.bool false)
  | .lrng a, ρ => (asI (ev G a ρ)).bind fun z => (rngD 0 z).map PyData.list
  | .isN a, ρ => (ev G a ρ).map fun x => .bool (isNo x)
  | .notN a, ρ => (ev G a ρ).map fun x => .bool (!isNo x)
  | .and_ a b, ρ => (asB (ev G a ρ)).bind fun x => if x = true then (asB (ev G b ρ)).map PyData.bool else some (.bool false)
  | .or_ a b, ρ => (asB (ev G a ρ)).bind fun x => if x = true then some (.bool true) else (asB (ev G b ρ)).map PyData.bool
  | .not_ a, ρ => (asB (ev G a ρ)).map fun x => .bool (!x)
  | .ite c a b, ρ => (asB (ev G c ρ)).bind fun x => if x = true then ev G a ρ else ev G b ρ
  | .call f as, ρ => (G.fns f).bind fun F => (evs G as ρ).bind F
  | .bi f as, ρ => (evs G as ρ).bind (biD G.tups f)
  | .isi a t, ρ => (ev G a ρ).bind fun x => (isiD t x).map PyData.bool
  | .tup as, ρ => (evs G as ρ).map PyData.tuple
  | .lst as, ρ => (evs G as ρ).map PyData.list
  | .ix a b, ρ => (ev G a ρ).bind fun x => (ev G b ρ).bind fun y => ixD G.tups x y
  | .sl a lo hi, ρ => (ev G a ρ).bind fun x => (evO G lo ρ).bind fun l => (evO G hi ρ).bind fun h => slD x l h
  | .rev a, ρ => (ev G a ρ).bind revD
  | .lc own elt p it cond, ρ => (evI G it ρ).bind fun ds => (compL (stepL own p (fun ρ1 => evC G cond ρ1) (fun ρ1 => ev G elt ρ1) ρ) ds).map PyData.list
  | .dc own k v p it cond, ρ => (evI G it ρ).bind fun ds => (compDK G.tups (stepDK own p (fun ρ1 => evC G cond ρ1) (fun ρ1 => ev G k ρ1) (fun ρ1 => ev G v ρ1) ρ) ds []).map PyData.dict
  | .get a k d, ρ => (ev G a ρ).bind fun x => (ev G k ρ).bind fun y => (ev G d ρ).bind fun z => dget G.tups x y z
  | .lvals a, ρ => (ev G a ρ).bind lvalsI
  | .oix i k, ρ => (ρ.own i).bind fun x => (ev G k ρ).bind fun y => oixD G.tups x y
  | .oget i k d, ρ => (ρ.own i).bind fun x => (ev G k ρ).bind fun y => (ev G d ρ).bind fun z => dget G.tups x y z
  | .oin i n k, ρ => (ρ.own i).bind fun x => (ev G k ρ).bind fun y => oinD G.tups n x y
  | .olen i, ρ => (ρ.own i).bind olenD
def evs (G : Gb) : Exs → En → Option (List D)
  | .nil, _ => some []
  | .cons a as, ρ => (ev G a ρ).bind fun x => (evs G as ρ).map (x :: ·)
def evO (G : Gb) : Ox → En → Option (Option Int)
  | .non, _ => some none
  | .some a, ρ => (asI (ev G a ρ)).map some
def evC (G : Gb) : Ox → En → Option Bool
  | .non, _ => some true
  | .some a, ρ => asB (ev G a ρ)
def evI (G : Gb) : Iu → En → Option (List D)
  | .seq a, ρ => (ev G a ρ).bind seqD
  | .rng1 a, ρ => (asI (ev G a ρ)).bind fun z => rngD 0 z
  | .rng2 a b, ρ => (asI (ev G a ρ)).bind fun x => (asI (ev G b ρ)).bind fun y => rngD x y
  | .rng3 a b c, ρ => (asI (ev G a ρ)).bind fun x => (asI (ev G b ρ)).bind fun y => (asI (ev G c ρ)).bind fun z => if z = -1 then rngDn x y else none
  | .enum a, ρ => (ev G a ρ).bind enumI
  | .zip a b, ρ => (ev G a ρ).bind fun x => (ev G b ρ).bind fun y => zipI x y
  | .vals a, ρ => (ev G a ρ).bind valsI
  | .items a, ρ => (ev G a ρ).bind itemsI
end

/-! ### statements -/
inductive Out | nx (ρ : En) | rt (d : D) | bk (ρ : En) | ct (ρ : En)
def forL (step : D → En → Option Out) : List D → En → Option Out
  | [], ρ => some (.nx ρ)
  | d :: ds, ρ => (step d ρ).bind fun o => match o with
    | .nx ρ1 => forL step ds ρ1
    | .ct ρ1 => forL step ds ρ1
    | .bk ρ1 => some (.nx ρ1)
    | .rt x => some (.rt x)
def whL (c : En → Option Bool) (b : En → Option Out) : Nat → En → Option Out
  | 0, _ => none
  | n + 1, ρ => (c ρ).bind fun t => if t = true then (b ρ).bind fun o => match o with
      | .nx ρ1 => whL c b n ρ1
      | .ct ρ1 => whL c b n ρ1
      | .bk ρ1 => some (.nx ρ1)
      | .rt x => some (.rt x)
    else some (.nx ρ)
def freeze (ρ : En) (i : Nat) : En := match ρ[i]? with
  | some (.ow d) => ρ.set i (.fz d)
  | _ => ρ
def wFuel : Nat := 100000
/-- a dict with two entries -/
def disp2 (T : List D) (a b c d : D) : Option D := (keyOf a).bind fun k => (keyOf c).map fun q => .dict (putD T (putD T [] a (.k k) b) c (.k q) d)
def evR (G : Gb) : Rx → En → Option Sl
  | .ex e, ρ => (ev G e ρ).map Sl.fz
  | .nl as, ρ => (evs G as ρ).map fun ds => .ow (.list ds)
  | .nd, _ => some (.ow (.dict []))
  | .nd2 k1 v1 k2 v2, ρ => (ev G k1 ρ).bind fun a => (ev G v1 ρ).bind fun b => (ev G k2 ρ).bind fun c => (ev G v2 ρ).bind fun d => (disp2 G.tups a b c d).map Sl.ow
def augD : Op2 → D → D → Option D
  | .add, .int a, .int b => some (.int (a + b))
  | .sub, .int a, .int b => some (.int (a - b))
  | .mul, .int a, .int b => if (-(2 ^ 64) < a ∧ a < 2 ^ 64) ∨ (-(2 ^ 64) < b ∧ b < 2 ^ 64) then some (.int (a * b)) else none
  | .fdiv, .int a, .int b => if 0 < b ∧ b.natAbs.log2 < 9000 then some (.int (a / b)) else none
  | .mod, .int a, .int b => if 0 < b then some (.int (a % b)) else none
  | _, _, _ => none
def appD : D → D → Option D
  | .list ds, d => if szOk (ds.length + 1) then some (.list (ds ++ [d])) else none
  | _, _ => none
def dputD (T : List D) : D → D → D → Option D
  | .dict kvs, k, d => (keyK T kvs k).bind fun q => if szOk (kvs.length + 1) then some (.dict (putD T kvs k q d)) else none
  | _, _, _ => none
mutual
def evS (G : Gb) : St → En → Option Out
  | .asg p e, ρ => (ev G e ρ).bind fun d => (bindP p d ρ).map Out.nx
  | .new i r, ρ => (evR G r ρ).map fun s => .nx (ρ.set i s)
  | .par i j a b, ρ => (evR G a ρ).bind fun x => (evR G b ρ).map fun y => .nx ((ρ.set i x).set j y)
  | .par3 i j k a b c, ρ => (evR G a ρ).bind fun x => (evR G b ρ).bind fun y => (evR G c ρ).map fun z => .nx (((ρ.set i x).set j y).set k z)
  | .aug i o e, ρ => (ρ.get i).bind fun x => (ev G e ρ).bind fun y => (augD o x y).map fun z => .nx (ρ.set i (.fz z))
  | .app i e, ρ => (ρ.own i).bind fun x => (ev G e ρ).bind fun d => (appD x d).map fun z => .nx (ρ.set i (.ow z))
  | .put i k e, ρ => (ρ.own i).bind fun x => (ev G e ρ).bind fun d => (ev G k ρ).bind fun y => (dputD G.tups x y d).map fun z => .nx (ρ.set i (.ow z))
  | .ife c a b, ρ => (asB (ev G c ρ)).bind fun t => if t = true then evSs G a ρ else evSs G b ρ
  | .for_ p it body, ρ => (evI G it ρ).bind fun ds => forL (fun d ρ1 => (bindP p d ρ1).bind fun ρ2 => evSs G body ρ2) ds ρ
  | .whl c body, ρ => whL (fun ρ1 => asB (ev G c ρ1)) (fun ρ1 => evSs G body ρ1) wFuel ρ
  | .ret e, ρ => (ev G e ρ).map Out.rt
  | .retN, _ => some (.rt .none)
  | .ex e, ρ => (ev G e ρ).map fun _ => .nx ρ
  | .raise_, _ => none
  | .pass, ρ => some (.nx ρ)
  | .brk, ρ => some (.bk ρ)
  | .cont, ρ => some (.ct ρ)
  | .fz i s, ρ => evS G s (freeze ρ i)
def evSs (G : Gb) : Ss → En → Option Out
  | .nil, ρ => some (.nx ρ)
  | .cons s ss, ρ => (evS G s ρ).bind fun o => match o with
    | .nx ρ1 => evSs G ss ρ1
    | r => some r
end
/-- a def called -/
def run (G : Gb) (np nN : Nat) (body : Ss) (args : List D) : Option D :=
  if args.length = np then (evSs G body (args.map Sl.fz ++ List.replicate (nN - np) Sl.un)).bind fun o => match o with
    | .rt d => some d
    | .nx _ => some .none
    | _ => none
  else none
end PL


set_option Elab.async false
set_option linter.all false
set_option maxRecDepth 100000
/-! PLa: values of the heap and data; what holds of a frame; expressions' readings. -/
namespace PL
open PySem PySem.Spec PyProof.Rows L2

def keyD : Key → D
  | .inl i => .int i
  | .inr x => .str x
/-- a list that stays: frozen, or of the module's own -/
def FzL (K : PySem.W.Frag) (H : Hp) (a : Addr) (xs : List V) : Prop :=
  (∃ o, H a = some (.frz o (.lst xs))) ∨
    ∃ (its : Array Value) (n : Nat), K.lookup a = some { cls := .type "list", data := .seq its n } ∧ its.size ≤ sizeLine ∧ Vals xs its.toList
theorem FzL.sq {K : PySem.W.Frag} {H : Hp} {a : Addr} {xs : List V} (h : FzL K H a xs) : SqL K H a xs := by
  rcases h with ⟨o, h⟩ | ⟨its, n, h1, h2, h3⟩
  · exact .inl (.inr ⟨o, h⟩)
  · exact .inr ⟨_, its, n, h1, rfl, rfl, rfl, h2, h3⟩
/-- a dict whose keys are truth values, told by its keys -/
def boolO (P : Program) (w : World) (a : Addr) (ks : List Bool) : HO := .ext fun h => (a == sysModules) = false ∧ ks.length ≤ sizeLine ∧ ∃ vs : List (Leaf × Value), h.DictOf (leafKind P w) a vs ∧ vs.map (·.1) = ks.map fun b => Leaf.num (if b = true then 1 else 0)
/-- the program, its world, the tuples of its module -/
structure PrW where
  P : Program
  w : World
  C : Addr → Option (List V)
/-- a tuple of the module's own -/
def COk (p : PrW) (K : PySem.W.Frag) : Prop := ∀ a xs, p.C a = some xs → ∃ (o : Obj) (its : Array Value) (n : Nat), K.lookup a = some o ∧ o.cls = .type "tuple" ∧ o.dict = none ∧ o.data = .seq its n ∧ its.size ≤ sizeLine ∧ Vals xs its.toList
/-- a tuple: of ints and texts alone it is tracked as one; any other one is known to its object; or it is one of the module's -/
def TpT (p : PrW) (H : Hp) (a : Addr) (k : Bool) (xs : List V) : Prop := (k = true ∧ H a = some (.tup xs)) ∨ (k = false ∧ ∃ o, H a = some (.frz o (.tup xs)) ∧ o.dict = none) ∨ p.C a = some xs
theorem TpT.sq {p : PrW} {K : PySem.W.Frag} {H : Hp} {a : Addr} {k : Bool} {xs : List V} (c : COk p K) (h : TpT p H a k xs) : SqT K H a xs := by
  rcases h with ⟨_, h⟩ | ⟨_, o, h, _⟩ | h
  · exact .inl (.inl h)
  · exact .inl (.inr ⟨o, h⟩)
  · obtain ⟨o, its, n, h1, h2, h3, h4, h5, h6⟩ := c a xs h
    exact .inr ⟨o, its, n, h1, h2, h4, h5, h6⟩
/-- its items are ints and texts alone -/
def flatK : List D → Bool
  | [] => true
  | .int _ :: r => flatK r
  | .str _ :: r => flatK r
  | _ :: _ => false
mutual
/-- v stands for the datum -/
def Rp (p : PrW) (K : PySem.W.Frag) (H : Hp) : D → V → Prop
  | .none, v => v = .non
  | .bool b, v => v = .bl b
  | .int i, v => v = .int i
  | .str x, v => v = .str x
  | .list ds, v => ∃ a xs, v = .ref a ∧ FzL K H a xs ∧ RpA p K H ds xs
  | .tuple ds, v => ∃ a xs, v = .ref a ∧ TpT p H a (flatK ds) xs ∧ RpA p K H ds xs
  | .dict kvs, v => ∃ a, v = .ref a ∧ ((∃ o kk, H a = some (.frz o (.dK kk)) ∧ RpD p K H kvs kk) ∨ (∃ o kt, kt ≠ [] ∧ H a = some (.frz o (.dT kt)) ∧ RpT p K H kvs kt) ∨ ∃ o ks, ks ≠ [] ∧ H a = some (.frz o (boolO p.P p.w a ks)) ∧ kvs.map (·.1) = ks.map PyData.bool)
def RpA (p : PrW) (K : PySem.W.Frag) (H : Hp) : List D → List V → Prop
  | [], xs => xs = []
  | d :: ds, xs => ∃ v vs, xs = v :: vs ∧ Rp p K H d v ∧ RpA p K H ds vs
def RpD (p : PrW) (K : PySem.W.Frag) (H : Hp) : List (D × D) → List (Key × V) → Prop
  | [], l => l = []
  | (k, d) :: r, l => ∃ q v l', l = (q, v) :: l' ∧ k = keyD q ∧ Rp p K H d v ∧ RpD p K H r l'
def RpT (p : PrW) (K : PySem.W.Frag) (H : Hp) : List (D × D) → List (List Key × V) → Prop
  | [], l => l = []
  | (k, d) :: r, l => ∃ q v l', l = (q, v) :: l' ∧ k = .tuple (q.map keyD) ∧ Rp p K H d v ∧ RpT p K H r l'
end
/-- tuples and what is frozen stay -/
def Kp (H H' : Hp) : Prop := (∀ b xs, H b = some (.tup xs) → H' b = some (.tup xs)) ∧ ∀ b o u, H b = some (.frz o u) → H' b = some (.frz o u)
theorem _root_.L2.Same.kp {H H' : Hp} (s : Same H H') : Kp H H' := ⟨fun b xs h => s b _ h, fun b o u h => s b _ h⟩
theorem Kp.refl (H : Hp) : Kp H H := ⟨fun _ _ h => h, fun _ _ _ h => h⟩
theorem Kp.trans {H H1 H2 : Hp} (a : Kp H H1) (b : Kp H1 H2) : Kp H H2 := ⟨fun c xs h => b.1 c xs (a.1 c xs h), fun c o u h => b.2 c o u (a.2 c o u h)⟩
theorem Kp.sqT {p : PrW} {H H' : Hp} {a : Addr} {b : Bool} {xs : List V} (k : Kp H H') (h : TpT p H a b xs) : TpT p H' a b xs := by
  rcases h with ⟨e, h⟩ | ⟨e, o, h, h2⟩ | h
  · exact .inl ⟨e, k.1 _ _ h⟩
  · exact .inr (.inl ⟨e, o, k.2 _ _ _ h, h2⟩)
  · exact .inr (.inr h)
theorem Kp.fzL {K : PySem.W.Frag} {H H' : Hp} {a : Addr} {xs : List V} (k : Kp H H') (h : FzL K H a xs) : FzL K H' a xs := by
  rcases h with ⟨o, h⟩ | h
  · exact .inl ⟨o, k.2 _ _ _ h⟩
  · exact .inr h
section
variable {p : PrW} {K : PySem.W.Frag} {H H' : Hp}
mutual
theorem Rp.keep (k : Kp H H') : ∀ (d : D) (v : V), Rp p K H d v → Rp p K H' d v
  | .none, _, h => by simpa only [Rp] using h
  | .bool _, _, h => by simpa only [Rp] using h
  | .int _, _, h => by simpa only [Rp] using h
  | .str _, _, h => by simpa only [Rp] using h
  | .list ds, _, h => by
    simp only [Rp] at h ⊢
    obtain ⟨a, xs, e, h1, h2⟩ := h
    exact ⟨a, xs, e, k.fzL h1, RpA.keep k ds xs h2⟩
  | .tuple ds, _, h => by
    simp only [Rp] at h ⊢
    obtain ⟨a, xs, e, h1, h2⟩ := h
    exact ⟨a, xs, e, k.sqT h1, RpA.keep k ds xs h2⟩
  | .dict kvs, _, h => by
    simp only [Rp] at h ⊢
    obtain ⟨a, e, h⟩ := h
    refine ⟨a, e, ?_⟩
    rcases h with ⟨o, kk, h1, h2⟩ | ⟨o, kk, h0, h1, h2⟩ | ⟨o, ks, h0, h1, h2⟩
    · exact .inl ⟨o, kk, k.2 _ _ _ h1, RpD.keep k kvs kk h2⟩
    · exact .inr (.inl ⟨o, kk, h0, k.2 _ _ _ h1, RpT.keep k kvs kk h2⟩)
    · exact .inr (.inr ⟨o, ks, h0, k.2 _ _ _ h1, h2⟩)
theorem RpA.keep (k : Kp H H') : ∀ (ds : List D) (vs : List V), RpA p K H ds vs → RpA p K H' ds vs
  | [], _, h => by simpa only [RpA] using h
  | d :: ds, _, h => by
    simp only [RpA] at h ⊢
    obtain ⟨v, vs, e, h1, h2⟩ := h
    exact ⟨v, vs, e, Rp.keep k d v h1, RpA.keep k ds vs h2⟩
theorem RpD.keep (k : Kp H H') : ∀ (ds : List (D × D)) (vs : List (Key × V)), RpD p K H ds vs → RpD p K H' ds vs
  | [], _, h => by simpa only [RpD] using h
  | (q, d) :: ds, _, h => by
    simp only [RpD] at h ⊢
    obtain ⟨q', v, l', e, e2, h1, h2⟩ := h
    exact ⟨q', v, l', e, e2, Rp.keep k d v h1, RpD.keep k ds l' h2⟩
theorem RpT.keep (k : Kp H H') : ∀ (ds : List (D × D)) (vs : List (List Key × V)), RpT p K H ds vs → RpT p K H' ds vs
  | [], _, h => by simpa only [RpT] using h
  | (q, d) :: ds, _, h => by
    simp only [RpT] at h ⊢
    obtain ⟨q', v, l', e, e2, h1, h2⟩ := h
    exact ⟨q', v, l', e, e2, Rp.keep k d v h1, RpT.keep k ds l' h2⟩
end
theorem RpA.len : ∀ {ds : List D} {vs : List V}, RpA p K H ds vs → vs.length = ds.length
  | [], _, h => by simp only [RpA] at h; subst h; rfl
  | d :: ds, _, h => by
    simp only [RpA] at h
    obtain ⟨v, vs, e, _, h2⟩ := h
    subst e
    simp [RpA.len h2]
theorem RpA.nil : RpA p K H [] [] := by simp only [RpA]
theorem RpA.cons {d : D} {v : V} {ds : List D} {vs : List V} (h : Rp p K H d v) (t : RpA p K H ds vs) : RpA p K H (d :: ds) (v :: vs) := by
  simp only [RpA]
  exact ⟨v, vs, rfl, h, t⟩
theorem RpA.get : ∀ {ds : List D} {vs : List V} {i : Nat} {d : D}, RpA p K H ds vs → ds[i]? = some d → ∃ v, vs[i]? = some v ∧ Rp p K H d v
  | [], _, _, _, _, e => by simp at e
  | d :: ds, _, 0, x, h, e => by
    simp only [RpA] at h
    obtain ⟨v, vs, e1, h1, _⟩ := h
    subst e1
    simp at e
    subst e
    exact ⟨v, rfl, h1⟩
  | d :: ds, _, i + 1, x, h, e => by
    simp only [RpA] at h
    obtain ⟨v, vs, e1, _, h2⟩ := h
    subst e1
    obtain ⟨u, e2, r⟩ := RpA.get (i := i) h2 (by simpa using e)
    exact ⟨u, by simpa using e2, r⟩
theorem RpA.app : ∀ {ds es : List D} {vs us : List V}, RpA p K H ds vs → RpA p K H es us → RpA p K H (ds ++ es) (vs ++ us)
  | [], _, _, _, h, h' => by simp only [RpA] at h; subst h; exact h'
  | d :: ds, _, _, _, h, h' => by
    simp only [RpA] at h
    obtain ⟨v, vs, e1, h1, h2⟩ := h
    subst e1
    exact .cons h1 (RpA.app h2 h')
theorem RpA.take : ∀ {ds : List D} {vs : List V} (n : Nat), RpA p K H ds vs → RpA p K H (ds.take n) (vs.take n)
  | _, _, 0, _ => by simp only [List.take_zero]; exact .nil
  | [], _, n + 1, h => by simp only [RpA] at h; subst h; exact .nil
  | d :: ds, _, n + 1, h => by
    simp only [RpA] at h
    obtain ⟨v, vs, e1, h1, h2⟩ := h
    subst e1
    simp only [List.take_succ_cons]
    exact .cons h1 (RpA.take n h2)
theorem RpA.drop : ∀ {ds : List D} {vs : List V} (n : Nat), RpA p K H ds vs → RpA p K H (ds.drop n) (vs.drop n)
  | _, _, 0, h => by simpa only [List.drop_zero] using h
  | [], _, n + 1, h => by simp only [RpA] at h; subst h; exact .nil
  | d :: ds, _, n + 1, h => by
    simp only [RpA] at h
    obtain ⟨v, vs, e1, h1, h2⟩ := h
    subst e1
    simp only [List.drop_succ_cons]
    exact RpA.drop n h2
theorem RpA.rev : ∀ {ds : List D} {vs : List V}, RpA p K H ds vs → RpA p K H ds.reverse vs.reverse
  | [], _, h => by simp only [RpA] at h; subst h; exact .nil
  | d :: ds, _, h => by
    simp only [RpA] at h
    obtain ⟨v, vs, e1, h1, h2⟩ := h
    subst e1
    rw [List.reverse_cons, List.reverse_cons]
    exact (RpA.rev h2).app (.cons h1 .nil)
theorem RpA.rep {ds : List D} {vs : List V} (h : RpA p K H ds vs) : ∀ k : Nat, RpA p K H (List.replicate k ds).flatten (List.replicate k vs).flatten
  | 0 => by simp only [List.replicate_zero, List.flatten_nil]; exact .nil
  | k + 1 => by
    simp only [List.replicate_succ, List.flatten_cons]
    exact h.app (RpA.rep h k)
theorem RpA.cut {ds : List D} {vs : List V} (h : RpA p K H ds vs) (lo hi : Option Int) : RpA p K H (cutD ds lo hi) (cutV vs lo hi) := by
  unfold cutD cutV
  rw [h.len]
  exact (h.drop _).take _
theorem RpA.ints : ∀ {ds : List D} {vs : List V} {ns : List Int}, RpA p K H ds vs → allInts ds = some ns → vs = ns.map V.int
  | [], _, _, h, e => by
    simp only [RpA] at h
    simp only [allInts] at e
    cases e
    subst h
    rfl
  | d :: ds, _, _, h, e => by
    simp only [RpA] at h
    obtain ⟨v, vs, e1, h1, h2⟩ := h
    cases d with
    | int a =>
      simp only [allInts, Option.map_eq_some_iff] at e
      obtain ⟨ms, e2, e3⟩ := e
      simp only [Rp] at h1
      subst e1 e3 h1
      rw [RpA.ints h2 e2]
      rfl
    | _ => simp [allInts] at e
theorem RpA.bools : ∀ {ds : List D} {vs : List V} {ns : List Bool}, RpA p K H ds vs → allBools ds = some ns → vs = ns.map V.bl
  | [], _, _, h, e => by
    simp only [RpA] at h
    simp only [allBools] at e
    cases e
    subst h
    rfl
  | d :: ds, _, _, h, e => by
    simp only [RpA] at h
    obtain ⟨v, vs, e1, h1, h2⟩ := h
    cases d with
    | bool a =>
      simp only [allBools, Option.map_eq_some_iff] at e
      obtain ⟨ms, e2, e3⟩ := e
      simp only [Rp] at h1
      subst e1 e3 h1
      rw [RpA.bools h2 e2]
      rfl
    | _ => simp [allBools] at e
/-! data without dicts, as the layer has it -/
mutual
theorem Rp.dp (cC : COk p K) : ∀ (d : D) (v : V), Rp p K H d v → d.canLay0 = true → Dp K H v d
  | .none, _, h, _ => by simp only [Rp] at h; subst h; exact .non
  | .bool _, _, h, _ => by simp only [Rp] at h; subst h; exact .bl _
  | .int _, _, h, _ => by simp only [Rp] at h; subst h; exact .int _
  | .str _, _, h, _ => by simp only [Rp] at h; subst h; exact .str _
  | .list ds, _, h, c => by
    simp only [Rp] at h
    obtain ⟨a, xs, e, h1, h2⟩ := h
    subst e
    exact .lst h1.sq (RpA.dp cC ds xs h2 (by simpa only [PyData.canLay0] using c))
  | .tuple ds, _, h, c => by
    simp only [Rp] at h
    obtain ⟨a, xs, e, h1, h2⟩ := h
    subst e
    exact .tup (h1.sq cC) (RpA.dp cC ds xs h2 (by simpa only [PyData.canLay0] using c))
  | .dict kvs, _, _, c => by simp [PyData.canLay0] at c
theorem RpA.dp (cC : COk p K) : ∀ (ds : List D) (vs : List V), RpA p K H ds vs → PyData.canLayAll0 ds = true → DpAll K H vs ds
  | [], _, h, _ => by simp only [RpA] at h; subst h; exact .nil
  | d :: ds, _, h, c => by
    simp only [RpA] at h
    obtain ⟨v, vs, e, h1, h2⟩ := h
    subst e
    simp only [PyData.canLayAll0, Bool.and_eq_true] at c
    exact .cons (Rp.dp cC d v h1 c.1) (RpA.dp cC ds vs h2 c.2)
end
end

/-! ### a frame's slots -/
/-- what a mutable local holds -/
def Ow (p : PrW) (K : PySem.W.Frag) (H : Hp) (d : D) (a : Addr) : Prop := match d with
  | .list ds => ∃ xs, H a = some (.lst xs) ∧ RpA p K H ds xs
  | .dict kvs => (∃ kk, H a = some (.dK kk) ∧ RpD p K H kvs kk) ∨ ∃ kt, kt ≠ [] ∧ H a = some (.dT kt) ∧ RpT p K H kvs kt
  | _ => False
def SlOk (p : PrW) (K : PySem.W.Frag) (H : Hp) : Sl → Option V → Prop
  | .un, _ => True
  | .fz d, o => ∃ v, o = some v ∧ Rp p K H d v
  | .ow d, o => ∃ a, o = some (.ref a) ∧ Ow p K H d a
structure EnvOk (p : PrW) (K : PySem.W.Frag) (H : Hp) (ρ : En) (σ : L2.St) : Prop where
  len : ρ.length = σ.length
  at_ : ∀ (i : Nat) (s : Sl), ρ[i]? = some s → ∃ o : Option V, σ[i]? = some o ∧ SlOk p K H s o
theorem Ow.same {p : PrW} {K : PySem.W.Frag} {H H' : Hp} (s : Same H H') {d : D} {a : Addr} (h : Ow p K H d a) : Ow p K H' d a := by
  cases d with
  | list ds =>
    obtain ⟨xs, h1, h2⟩ := h
    exact ⟨xs, s _ _ h1, RpA.keep s.kp _ _ h2⟩
  | dict kvs =>
    rcases h with ⟨kk, h1, h2⟩ | ⟨kk, h0, h1, h2⟩
    · exact .inl ⟨kk, s _ _ h1, RpD.keep s.kp _ _ h2⟩
    · exact .inr ⟨kk, h0, s _ _ h1, RpT.keep s.kp _ _ h2⟩
  | _ => exact h.elim
theorem EnvOk.same {p : PrW} {K : PySem.W.Frag} {H H' : Hp} {ρ : En} {σ : L2.St} (E : EnvOk p K H ρ σ) (s : Same H H') : EnvOk p K H' ρ σ := by
  refine ⟨E.len, fun i sl e => ?_⟩
  obtain ⟨o, h1, h2⟩ := E.at_ i sl e
  refine ⟨o, h1, ?_⟩
  cases sl with
  | un => trivial
  | fz d =>
    obtain ⟨v, h3, h4⟩ := h2
    exact ⟨v, h3, Rp.keep s.kp _ _ h4⟩
  | ow d =>
    obtain ⟨a, h3, h4⟩ := h2
    exact ⟨a, h3, h4.same s⟩
theorem EnvOk.get {p : PrW} {K : PySem.W.Frag} {H : Hp} {ρ : En} {σ : L2.St} (E : EnvOk p K H ρ σ) {i : Nat} {d : D} (h : ρ.get i = some d) : ∃ v, σ[i]? = some (some v) ∧ Rp p K H d v := by
  unfold En.get at h
  split at h
  · rename_i d' e
    cases h
    obtain ⟨o, h1, v, h2, h3⟩ := E.at_ i _ e
    subst h2
    exact ⟨v, h1, h3⟩
  · cases h
theorem EnvOk.own {p : PrW} {K : PySem.W.Frag} {H : Hp} {ρ : En} {σ : L2.St} (E : EnvOk p K H ρ σ) {i : Nat} {d : D} (h : ρ.own i = some d) : ∃ a, σ[i]? = some (some (.ref a)) ∧ Ow p K H d a := by
  unfold En.own at h
  split at h
  · rename_i d' e
    cases h
    obtain ⟨o, h1, v, h2, h3⟩ := E.at_ i _ e
    subst h2
    exact ⟨v, h1, h3⟩
  · cases h
theorem EnvOk.set {p : PrW} {K : PySem.W.Frag} {H : Hp} {ρ : En} {σ : L2.St} (E : EnvOk p K H ρ σ) {i : Nat} {d : D} {v : V} (h : Rp p K H d v) : EnvOk p K H (ρ.set i (.fz d)) (σ.set i (some v)) := by
  refine ⟨by simp [E.len], fun j sl e => ?_⟩
  by_cases hj : i = j
  · subst hj
    by_cases hi : i < ρ.length
    · rw [List.getElem?_set_self hi] at e
      cases e
      exact ⟨some v, by rw [List.getElem?_set_self (by rw [← E.len]; exact hi)], v, rfl, h⟩
    · rw [List.getElem?_eq_none (by simpa using hi)] at e
      cases e
  · rw [List.getElem?_set_ne hj] at e
    obtain ⟨o, h1, h2⟩ := E.at_ j sl e
    exact ⟨o, by rw [List.getElem?_set_ne hj]; exact h1, h2⟩
theorem EnvOk.wipe {p : PrW} {K : PySem.W.Frag} {H : Hp} {ρ : En} {σ : L2.St} (E : EnvOk p K H ρ σ) : ∀ vs : List Nat, EnvOk p K H (wipeE ρ vs) (L2.wipe σ vs)
  | [] => E
  | v :: vs => by
    have E1 := EnvOk.wipe E vs
    refine ⟨by simp [wipeE, L2.wipe, E1.len], fun j sl e => ?_⟩
    unfold wipeE at e
    unfold L2.wipe
    by_cases hj : v = j
    · subst hj
      by_cases hi : v < (wipeE ρ vs).length
      · rw [List.getElem?_set_self hi] at e
        cases e
        exact ⟨none, by rw [List.getElem?_set_self (by rw [← E1.len]; exact hi)], trivial⟩
      · rw [List.getElem?_eq_none (by simpa using hi)] at e
        cases e
    · rw [List.getElem?_set_ne hj] at e
      obtain ⟨o, h1, h2⟩ := E1.at_ j sl e
      exact ⟨o, by rw [List.getElem?_set_ne hj]; exact h1, h2⟩

/-! ### readings -/
abbrev RE (α : Type) := En → Option α
def tE (p : PrW) (K : PySem.W.Frag) (f : RE D) : TE := fun σ H Q => ∃ ρ d, EnvOk p K H ρ σ ∧ f ρ = some d ∧ ∀ v H', Same H H' → Rp p K H' d v → Q v H'
def tT (p : PrW) (K : PySem.W.Frag) (f : RE Bool) : TT := fun σ H Q => ∃ ρ b, EnvOk p K H ρ σ ∧ f ρ = some b ∧ ∀ H', Same H H' → Q b H'
def tA (p : PrW) (K : PySem.W.Frag) (f : RE (List D)) : TA := fun σ H Q => ∃ ρ ds, EnvOk p K H ρ σ ∧ f ρ = some ds ∧ ∀ vs H', Same H H' → RpA p K H' ds vs → Q vs H'
section
variable {X : Cx} {e : Expr}
theorem PEwk {t t' : TE} (h : PE X e t) (w : ∀ σ H Q, t' σ H Q → t σ H Q) : PE X e t' := ⟨fun pins s σ H Q I q => h.run pins s σ H Q I (w σ H Q q)⟩
theorem PTwk {t t' : TT} (h : PT X e t) (w : ∀ σ H Q, t' σ H Q → t σ H Q) : PT X e t' := ⟨fun pins s σ H Q I q => h.run pins s σ H Q I (w σ H Q q)⟩
theorem PWwk {t t' : TT} (h : L2.PW X e t) (w : ∀ σ H Q, t' σ H Q → t σ H Q) : L2.PW X e t' := ⟨fun wh pins s σ H Q I q => h.run wh pins s σ H Q I (w σ H Q q)⟩
theorem PAwk {es : List Expr} {t t' : TA} (h : PA X es t) (w : ∀ σ H Q, t' σ H Q → t σ H Q) : PA X es t' := ⟨fun pos pins s σ H Q I q => h.run pos pins s σ H Q I (w σ H Q q)⟩
theorem PSwk {st : Stmt} {t t' : TS} (h : PS X st t) (w : ∀ D σ H, t' D σ H → t D σ H) : PS X st t' := ⟨fun pins s σ H D I q => h.run pins s σ H D I (w D σ H q)⟩
theorem PSswk {st : List Stmt} {t t' : TS} (h : PSs X st t) (w : ∀ D σ H, t' D σ H → t D σ H) : PSs X st t' := ⟨fun pins s σ H D I q => h.run pins s σ H D I (w D σ H q)⟩
theorem PIwk {tg : Expr} {t t' : TI} (h : PI X tg e t) (w : ∀ σ H Q, t' σ H Q → t σ H Q) : PI X tg e t' := ⟨fun pins s σ H Q I q => h.run pins s σ H Q I (w σ H Q q)⟩
theorem PGwk {t t' : TG} (h : PG X e t) (w : ∀ v σ H Q, t' v σ H Q → t v σ H Q) : PG X e t' := ⟨fun pins s σ H v u Q I r q => h.run pins s σ H v u Q I r (w v σ H Q q)⟩
/-- a new list or dict is frozen at once -/
theorem EPseal {pins : List (Addr × Obj)} {σ : L2.St} {Q : VK} {u : Value} {s : Shared} (h : EP X pins σ (fun v H' => ∃ p o, v = .ref p ∧ H' p = some o ∧ Mut (some o) ∧ ∀ od, Q v (upd H' p (.frz od o))) u s) : EP X pins σ Q u s := by
  obtain ⟨v, H', I, r, p, o, ev, hp, mu, q⟩ := h
  obtain ⟨od, I2⟩ := I.lock hp mu
  exact ⟨v, _, I2, r, q od⟩
theorem same_new {H : Hp} {p : Addr} {o : HO} (h : H p = none) : Same H (upd H p o) := fun b u e => by
  rw [upd_ne (ne_of_none e h)]
  exact e
theorem same_new2 {H : Hp} {p : Addr} {o u : HO} (h : H p = none) : Same H (upd (upd H p o) p u) := by
  rw [upd_upd]
  exact same_new h
end
end PL


set_option Elab.async false
set_option linter.all false
set_option maxRecDepth 100000
/-! PLb: operations by values. -/
namespace PL
open PySem PySem.Spec PyProof.Rows L2

abbrev pX (X : Cx) (C : Addr → Option (List V)) : PrW := ⟨X.prog, X.w, C⟩
structure Ctx (X : Cx) (C : Addr → Option (List V)) : Prop where
  calm : X.calm = true
  nd : X.N.Nodup
  hu : X.A.units + 70 < cLine
  cc : COk (pX X C) X.K

/-- a result: what stands for r may be handed on -/
def Give (p : PrW) (K : PySem.W.Frag) (H : Hp) (r : D) (Q : VK) : Prop := ∀ v H', Same H H' → Rp p K H' r v → Q v H'
def rD (p : PrW) (K : PySem.W.Frag) (f : D → D → Option D) : R2 := fun x y H Q => ∃ d e r, Rp p K H d x ∧ Rp p K H e y ∧ f d e = some r ∧ Give p K H r Q
def rD1 (p : PrW) (K : PySem.W.Frag) (f : D → Option D) : V → Hp → VK → Prop := fun x H Q => ∃ d r, Rp p K H d x ∧ f d = some r ∧ Give p K H r Q
def rDs (p : PrW) (K : PySem.W.Frag) (f : List D → Option D) : List V → Hp → VK → Prop := fun xs H Q => ∃ ds r, RpA p K H ds xs ∧ f ds = some r ∧ Give p K H r Q
theorem Give.int {p : PrW} {K : PySem.W.Frag} {H : Hp} {i : Int} {Q : VK} (g : Give p K H (.int i) Q) : Q (.int i) H := g _ H (Same.refl H) (by simp only [Rp])
theorem Give.bool {p : PrW} {K : PySem.W.Frag} {H : Hp} {i : Bool} {Q : VK} (g : Give p K H (.bool i) Q) : Q (.bl i) H := g _ H (Same.refl H) (by simp only [Rp])
/-- how a new tuple is tracked -/
def tupO (k : Bool) (od : Obj) (xs : List V) : HO := if k then .tup xs else .frz od (.tup xs)
/-- a new tuple -/
theorem Give.tup {p : PrW} {K : PySem.W.Frag} {H : Hp} {ds : List D} {xs : List V} {Q : VK} (g : Give p K H (.tuple ds) Q) (r : RpA p K H ds xs) : ∀ q od, od.dict = none → H q = none → Q (.ref q) (upd H q (tupO (flatK ds) od xs)) := fun q od ho hq =>
  g _ _ (same_new hq) (by
    simp only [Rp]
    refine ⟨q, xs, rfl, ?_, RpA.keep (same_new hq).kp _ _ r⟩
    unfold tupO
    cases e : flatK ds with
    | true => exact .inl ⟨rfl, upd_same⟩
    | false => exact .inr (.inl ⟨rfl, od, upd_same, ho⟩))
/-- a new list, frozen -/
theorem Give.lst {p : PrW} {K : PySem.W.Frag} {H : Hp} {ds : List D} {xs : List V} {Q : VK} (g : Give p K H (.list ds) Q) (r : RpA p K H ds xs) : ∀ q od, H q = none → Q (.ref q) (upd H q (.frz od (.lst xs))) := fun q od hq =>
  g _ _ (same_new hq) (by
    simp only [Rp]
    exact ⟨q, xs, rfl, .inl ⟨od, upd_same⟩, RpA.keep (same_new hq).kp _ _ r⟩)
section
variable {X : Cx} {C : Addr → Option (List V)}
/-- behind a rule that makes a new list -/
theorem sealL {pins : List (Addr × Obj)} {σ : L2.St} {H : Hp} {xs : List V} {Q : VK} {u : Value} {s : Shared} (q : ∀ p od, H p = none → Q (.ref p) (upd H p (.frz od (.lst xs))))
    (h : EP X pins σ (fun v H' => ∃ p, v = .ref p ∧ H p = none ∧ H' = upd H p (.lst xs)) u s) : EP X pins σ Q u s := by
  obtain ⟨v, H', I, r, p, ev, hp, e⟩ := h
  subst e
  refine EPseal ⟨v, _, I, r, p, .lst xs, ev, upd_same, True.intro, fun od => ?_⟩
  rw [ev, upd_upd]
  exact q p od hp
theorem sealD {pins : List (Addr × Obj)} {σ : L2.St} {H : Hp} {o : HO} {Q : VK} {u : Value} {s : Shared} (mu : Mut (some o)) (q : ∀ p od, H p = none → Q (.ref p) (upd H p (.frz od o)))
    (h : EP X pins σ (fun v H' => ∃ p, v = .ref p ∧ H p = none ∧ H' = upd H p o) u s) : EP X pins σ Q u s := by
  obtain ⟨v, H', I, r, p, ev, hp, e⟩ := h
  subst e
  refine EPseal ⟨v, _, I, r, p, o, ev, upd_same, mu, fun od => ?_⟩
  rw [ev, upd_upd]
  exact q p od hp

/-! ### lists that stay: +, * -/
theorem FzL.exact {K : PySem.W.Frag} {H : Hp} {a : Addr} {xs : List V} {pins : List (Addr × Obj)} {σ : L2.St} {s : Shared} (I : Inv X pins σ H s) (h : FzL X.K H a xs) :
    ∃ (its : List Value) (n : Nat), Vals xs its ∧ xs.length = its.length ∧ xs.length ≤ sizeLine ∧ s.heap.get? a = some { cls := .type "list", data := .seq its.toArray n } := by
  rcases h with ⟨o, h⟩ | ⟨its, n, h1, h2, h3⟩
  · obtain ⟨_, z, its, n, r, e⟩ := (show ObjOk X.prog X.w H s.heap a (.frz o (.lst xs)) from I.hok a _ h)
    exact ⟨its, n, r, r.length, z, e⟩
  · have e := h3.length
    simp only [Array.length_toList] at e
    exact ⟨its.toList, n, h3, by simpa using h3.length, by omega, by simpa using I.kIn a _ h1⟩
/-- xs + ys of lists that stay -/
theorem op_catF : OpR X (binaryOp .Add) (fun x y H Q => ∃ l b xs zs, x = .ref l ∧ y = .ref b ∧ FzL X.K H l xs ∧ FzL X.K H b zs ∧ xs.length + zs.length ≤ sizeLine ∧ ∀ p, H p = none → Q (.ref p) (upd H p (.lst (xs ++ zs)))) := by
  intro pins s σ H x y v u Q I rx ry h
  obtain ⟨l, b, xs, zs, rfl, rfl, h1, h2, hz, q⟩ := h
  cases rx
  cases ry
  obtain ⟨its, n, r, hl, _, e⟩ := h1.exact (K := X.K) I
  obtain ⟨its2, n2, r2, hl2, _, e2⟩ := h2.exact (K := X.K) I
  refine PySem.P.add_list e e2 ?_ (by simp only [List.size_toArray]; omega)
  rw [show its.toArray ++ its2.toArray = (its ++ its2).toArray by simp]
  exact ⟨.ref s.heap.objs.size, _, I.lnew (t' := s.toks) (r.append r2) (by rw [List.length_append]; omega), rfl, q _ I.fresh⟩
/-- xs * k of a list that stays -/
theorem op_repF : OpR X (binaryOp .Mult) (fun x y H Q => ∃ l k xs, x = .ref l ∧ y = .int k ∧ FzL X.K H l xs ∧ 0 ≤ k ∧ k < 2 ^ 63 ∧ xs.length * k.toNat ≤ sizeLine ∧ ∀ p, H p = none → Q (.ref p) (upd H p (.lst (List.replicate k.toNat xs).flatten))) := by
  intro pins s σ H x y v u Q I rx ry h
  obtain ⟨l, k, xs, rfl, rfl, h1, k1, k2, hz, q⟩ := h
  cases rx
  obtain ⟨t, rfl⟩ := ry
  obtain ⟨its, n, r, hl, _, e⟩ := h1.exact (K := X.K) I
  have c2 : Builtin.List.listTooLong (its.toArray.size * k.toNat) = false := notLongL (by rw [List.size_toArray, ← hl]; exact hz)
  have c1 : ¬ its.toArray.size * k.toNat > (2 ^ 63 - 1) / 8 := by
    have z : its.toArray.size * k.toNat ≤ sizeLine := by rw [List.size_toArray, ← hl]; exact hz
    have z2 : (sizeLine : Nat) ≤ (2 ^ 63 - 1) / 8 := by decide
    omega
  have c0 : ¬ (!Builtin.List.listFitsIndex k) = true := by
    rw [fitsIndex_both (by omega) k2]
    exact Bool.false_ne_true
  have new : List.foldl (fun x1 x2 => x1 ++ x2) #[] (List.replicate (if its.toArray.isEmpty = true then 0 else k.toNat) its.toArray) = (List.replicate k.toNat its).flatten.toArray := by
    have f0 := foldl_rep its (if its.toArray.isEmpty = true then 0 else k.toNat) []
    rw [List.nil_append] at f0
    refine f0.trans ?_
    cases its with
    | nil => simp
    | cons a r' => rw [if_neg (by simp)]
  have two := call_meets (prog := X.prog) (w := X.w) (A := X.A) (E := X.xe) (Q := EP X pins σ Q) (s := s) F.slot_list_mul (show s.TypeIs (.ref l) "list" from ⟨_, e, rfl⟩) F.entry_list_mul (F.args_list_mul_2 _ _) (AutoListH.list___mul___list_int_3 l its.toArray n k t c0 c1 (by rw [c2]; exact Bool.false_ne_true))
    ⟨e, by
      rw [new]
      exact ⟨.ref s.heap.objs.size, _, I.lnew (t' := s.toks) (r.rep k.toNat) (by rw [PyProof.Rows.lm_len_rep_flat, Nat.mul_comm]; exact hz), rfl, q _ I.fresh⟩⟩
  exact wpAny_binaryOp_repeat_ref (T := "list") (U := "int") (by decide) ⟨_, e, rfl⟩ (fun s' => typeIs_int s' k t) noFill_list_mul F.fills_int_mul F.slot_int_rmul repeat_list F.slot_int_index.lookup
    (call_meets F.slot_int_rmul (typeIs_int s k t) F.entry_int_rmul (F.args_int_rmul_2 _ _) (int___rmul___int_list k t l its.toArray n) ⟨e, rfl, ⟨_, e, rfl⟩, two⟩)

/-! ### new tuples -/
/-- a new tuple is laid -/
theorem laidT {pins : List (Addr × Obj)} {σ : L2.St} {H : Hp} {s : Shared} {xs : List V} {us : List Value} {Q : VK} (I : Inv X pins σ H s) (k : Bool) (r : Vals xs us) (hz : xs.length ≤ sizeLine)
    (q : ∀ p od, od.dict = none → H p = none → Q (.ref p) (upd H p (tupO k od xs))) : EP X pins σ Q (.ref s.heap.objs.size) { s with heap := s.heap.push { cls := .type "tuple", data := .seq us.toArray } } := by
  have I2 := I.laid (t' := s.toks) (h' := s.heap.push { cls := .type "tuple", data := .seq us.toArray }) (a := s.heap.objs.size) (o := tupO k { cls := .type "tuple", data := .seq us.toArray } xs) (fun b ob q => Heap.get?_push_of_some _ q) (Nat.le_refl _) (by
    unfold tupO
    cases k with
    | true => exact ⟨hz, us, r, IsTup.new _ _⟩
    | false => exact ⟨Heap.get?_push_size _ rfl, hz, us, r, IsTup.new _ _⟩)
  exact ⟨.ref s.heap.objs.size, _, I2, rfl, q _ _ rfl I.fresh⟩
/-- t + u -/
theorem op_catK (k : Bool) : OpR X (binaryOp .Add) (fun x y H Q => ∃ a b xs ys, x = .ref a ∧ y = .ref b ∧ SqT X.K H a xs ∧ SqT X.K H b ys ∧ xs.length + ys.length ≤ sizeLine ∧
    (xs = [] → Q (.ref b) H) ∧ (xs ≠ [] → ys = [] → Q (.ref a) H) ∧ (xs ≠ [] → ys ≠ [] → ∀ p od, od.dict = none → H p = none → Q (.ref p) (upd H p (tupO k od (xs ++ ys))))) := by
  intro pins s σ H x y v u Q I rx ry h
  obtain ⟨a, b, xs, ys, rfl, rfl, ha, hb, hz, q0, q1, q2⟩ := h
  by_cases hx : xs = []
  · exact op_catA pins s σ H _ _ v u Q I rx ry ⟨a, b, xs, ys, rfl, rfl, ha, hb, hz, q0, q1, fun z => absurd hx z⟩
  · cases rx
    cases ry
    obtain ⟨its, r1, p1, _⟩ := I.tuple ha
    obtain ⟨its2, r2, p2, _⟩ := I.tuple hb
    exact HT.cat_tup p1 p2 (fun z => hx (r1.nil_iff.mp z)) (fun z => ⟨.ref a, H, I, rfl, q1 hx (r2.nil_iff.mp z)⟩) (fun z => laidT I k (r1.append r2) (by rw [List.length_append]; exact hz) (q2 hx fun w => z (r2.nil_iff.mpr w))) (by rw [← r1.length, ← r2.length]; exact hz)
/-- t * k -/
theorem op_repK (f : Bool) : OpR X (binaryOp .Mult) (fun x y H Q => ∃ l k xs, x = .ref l ∧ y = .int k ∧ SqT X.K H l xs ∧ xs ≠ [] ∧ 2 ≤ k ∧ k ≤ 1000 ∧ xs.length ≤ 1000 ∧ ∀ p od, od.dict = none → H p = none → Q (.ref p) (upd H p (tupO f od (List.replicate k.toNat xs).flatten))) := by
  intro pins s σ H x y v u Q I rx ry h
  obtain ⟨l, k, xs, rfl, rfl, hT, hne, k1, k2, hz, q⟩ := h
  cases rx
  obtain ⟨t, rfl⟩ := ry
  obtain ⟨its, r, ⟨⟨cls, dd, data, sl⟩, ho, hc, n, hd⟩, hs⟩ := I.tuple hT
  simp only at hc hd
  subst hc hd
  have el : its.length = xs.length := r.length.symm
  have hi : its.toArray.isEmpty = false := by
    cases its with
    | nil => exact absurd (List.eq_nil_of_length_eq_zero el.symm) hne
    | cons a b => rfl
  have sz : its.toArray.size = xs.length := by rw [List.size_toArray, el]
  have hm : ((its.toArray.size : Nat) : Int) * k ≤ 1000000 := by
    rw [sz]
    have a1 : ((xs.length : Nat) : Int) * k ≤ 1000 * k := Int.mul_le_mul_of_nonneg_right (by omega) (by omega)
    omega
  have fl : k.toNat * xs.length ≤ 1000 * 1000 := Nat.mul_le_mul (by omega) hz
  have c0 : (decide (k < -(2 ^ 63)) || decide (k ≥ 2 ^ 63)) = false := by
    rw [decide_eq_false (by omega), decide_eq_false (by omega)] <;> rfl
  have c1 : (its.toArray.isEmpty || k == 1) = false := by
    rw [hi, Bool.false_or]
    exact beq_eq_false_iff_ne.mpr (by omega)
  have c2 : (decide (k ≤ 0) || its.toArray.isEmpty) = false := by
    rw [hi, Bool.or_false]
    exact decide_eq_false (by omega)
  have c4 : Builtin.Tuple.tupleTooMany (((its.toArray.size : Nat) : Int) * k) = false := by
    unfold Builtin.Tuple.tupleTooMany
    rw [sizeLine_eq]
    exact decide_eq_false (by omega)
  have fz : (List.replicate k.toNat xs).flatten.length ≤ sizeLine := by
    rw [PyProof.Rows.lm_len_rep_flat, sizeLine_eq]
    omega
  have two := call_meets (prog := X.prog) (w := X.w) (A := X.A) (E := X.xe) (Q := EP X pins σ Q) (s := s) F.slot_tuple_mul (show s.TypeIs (.ref l) "tuple" from ⟨_, ho, rfl⟩) F.entry_tuple_mul (F.args_tuple_mul_2 _ _)
    (tuple_mulW l its.toArray n dd sl k t c0 c1 c2 (by omega) c4 (by rw [size_rep, List.size_toArray, PyProof.Rows.lm_len_rep_flat, el, sizeLine_eq]; omega)) ⟨ho, by
      rw [size_rep]
      exact laidT I f (r.rep k.toNat) fz q⟩
  exact wpAny_binaryOp_repeat_ref (T := "tuple") (U := "int") (by decide) ⟨_, ho, rfl⟩ (fun s' => typeIs_int s' k t) noFill_tuple_mul F.fills_int_mul F.slot_int_rmul repeat_tuple F.slot_int_index.lookup
    (call_meets F.slot_int_rmul (typeIs_int s k t) F.entry_int_rmul (F.args_int_rmul_2 _ _) (int_rmul_tuple k t l its.toArray n dd sl) ⟨ho, rfl, ⟨_, ho, rfl⟩, two⟩)
/-- t[lo:hi] -/
theorem sl_tupK (k : Bool) : SlR X (fun x lo hi H Q => ∃ a xs, x = .ref a ∧ SqT X.K H a xs ∧
    (HT.sIx xs.length 0 lo = 0 ∧ HT.sIx xs.length xs.length hi = xs.length → Q (.ref a) H) ∧ (¬ (HT.sIx xs.length 0 lo = 0 ∧ HT.sIx xs.length xs.length hi = xs.length) → ∀ p od, od.dict = none → H p = none → Q (.ref p) (upd H p (tupO k od (cutV xs lo hi))))) := by
  intro pins s σ H x v vl vu lo hi sl Q I rx hs pl pu h
  obtain ⟨a, xs, rfl, hx, q1, q2⟩ := h
  by_cases hw : HT.sIx xs.length 0 lo = 0 ∧ HT.sIx xs.length xs.length hi = xs.length
  · exact sl_tupA pins s σ H _ v vl vu lo hi sl Q I rx hs pl pu ⟨a, xs, rfl, hx, q1, fun z => absurd hw z⟩
  · cases rx
    obtain ⟨its, r, ht, hz⟩ := I.tuple hx
    have el : its.toArray.size = xs.length := by rw [List.size_toArray]; exact r.length.symm
    refine ⟨"tuple", _, PyProof.Rows.slot_tuple_getitem.lookup, ht.typeIs, HT.getItem_tuple_cut ht hs pl pu (by rw [el]; exact hw) ?_ (by rw [el]; exact hz)⟩
    rw [el]
    exact laidT I k ((r.drop (HT.sIx xs.length 0 lo)).take (HT.sIx xs.length xs.length hi - HT.sIx xs.length 0 lo)) (Nat.le_trans (cutV_length xs lo hi) hz) (q2 hw)
/-- (e, ..) -/
theorem pe_tupK {es : List Expr} {t : TA} {x1 : Nat} {pos : Pos} (h : PA X es t) : PE X (.Tuple es x1 pos) (fun σ H Q => t σ H fun xs H1 => xs.length ≤ sizeLine ∧ ∃ k : Bool, ∀ p od, od.dict = none → H1 p = none → Q (.ref p) (upd H1 p (tupO k od xs))) := by
  refine ⟨fun pins s σ H Q I hq => ?_⟩
  exact wpAny_Tuple_spliced (thn (h.run pos pins s σ H _ I hq) fun us s1 ⟨xs, H1, I1, r, z, k, q⟩ => ⟨by rw [← r.length]; exact z, laidT I1 k r z q⟩)
/-- tuple(a list) -/
theorem call_tupleK (k : Bool) : CallR X (.type "tuple") (fun xs H Q => ∃ p ys, xs = [.ref p] ∧ SqL X.K H p ys ∧ ∀ l od, od.dict = none → H l = none → Q (.ref l) (upd H l (tupO k od ys))) := by
  intro pins s σ H xs us Q I r h
  obtain ⟨p, ys, rfl, hq, q⟩ := h
  obtain ⟨u, rfl, rx⟩ := vals1 r
  cases rx
  obtain ⟨its, r', pl, hz⟩ := I.list hq
  have hlen := r'.length
  refine call_tuple_list pl.isList (fun h' kp => ?_) (by simp only [List.size_toArray] <;> omega)
  exact laidT (s := { s with heap := h' }) (I.kept (t' := s.toks) kp) k r' hz q

/-! ### the operations of the language -/
def opPy : Op2 → Operator
  | .add => .Add
  | .sub => .Sub
  | .mul => .Mult
  | .fdiv => .FloorDiv
  | .mod => .Mod
  | .pow => .Pow
theorem rpInt {p : PrW} {K : PySem.W.Frag} {H : Hp} {i : Int} {v : V} : Rp p K H (.int i) v ↔ v = .int i := by simp only [Rp]
theorem rpBool {p : PrW} {K : PySem.W.Frag} {H : Hp} {i : Bool} {v : V} : Rp p K H (.bool i) v ↔ v = .bl i := by simp only [Rp]
theorem rpStr {p : PrW} {K : PySem.W.Frag} {H : Hp} {i : Str} {v : V} : Rp p K H (.str i) v ↔ v = .str i := by simp only [Rp]
theorem rpTup {p : PrW} {K : PySem.W.Frag} {H : Hp} {ds : List D} {v : V} : Rp p K H (.tuple ds) v ↔ ∃ a xs, v = .ref a ∧ TpT p H a (flatK ds) xs ∧ RpA p K H ds xs := by simp only [Rp]
theorem rpLst {p : PrW} {K : PySem.W.Frag} {H : Hp} {ds : List D} {v : V} : Rp p K H (.list ds) v ↔ ∃ a xs, v = .ref a ∧ FzL K H a xs ∧ RpA p K H ds xs := by simp only [Rp]
theorem op2 (c : Ctx X C) : ∀ o : Op2, OpR X (binaryOp (opPy o)) (rD (pX X C) X.K (opD o)) := by
  intro o pins s σ H x y v u Q I rx ry ⟨d, e, r, hd, he, hf, g⟩
  cases o with
  | add =>
    cases d <;> cases e <;> simp only [opD] at hf <;> try (cases hf; done)
    · cases hf
      rw [rpInt] at hd he
      exact op_add pins s σ H x y v u Q I rx ry ⟨_, _, hd, he, g.int⟩
    · split at hf
      · rename_i hz
        cases hf
        rw [rpLst] at hd he
        obtain ⟨a, xs, ex, h1, h2⟩ := hd
        obtain ⟨b, ys, ey, h3, h4⟩ := he
        have hz : xs.length + ys.length ≤ sizeLine := by rw [h2.len, h4.len]; exact of_decide_eq_true hz
        exact thn (op_catF pins s σ H x y v u _ I rx ry ⟨a, b, xs, ys, ex, ey, h1, h3, hz, fun p hp => ⟨p, rfl, hp, rfl⟩⟩) fun _ _ z => sealL (g.lst (h2.app h4)) z
      · cases hf
    · split at hf
      · rename_i hz
        cases hf
        rw [rpTup] at hd he
        obtain ⟨a, xs, ex, h1, h2⟩ := hd
        obtain ⟨b, ys, ey, h3, h4⟩ := he
        have hz : xs.length + ys.length ≤ sizeLine := by rw [h2.len, h4.len]; exact of_decide_eq_true hz
        refine op_catK (flatK _) pins s σ H x y v u Q I rx ry ⟨a, b, xs, ys, ex, ey, h1.sq c.cc, h3.sq c.cc, hz, fun e0 => ?_, fun _ e0 => ?_, fun _ _ => g.tup (h2.app h4)⟩
        · subst e0
          have z := List.eq_nil_of_length_eq_zero h2.len.symm
          subst z
          exact g _ H (Same.refl H) (rpTup.mpr ⟨b, ys, rfl, h3, h4⟩)
        · subst e0
          have z := List.eq_nil_of_length_eq_zero h4.len.symm
          subst z
          exact g _ H (Same.refl H) (rpTup.mpr ⟨a, xs, rfl, by simpa using h1, by simpa using h2⟩)
      · cases hf
  | sub =>
    cases d <;> cases e <;> simp only [opD] at hf <;> try (cases hf; done)
    cases hf
    rw [rpInt] at hd he
    exact op_sub pins s σ H x y v u Q I rx ry ⟨_, _, hd, he, g.int⟩
  | mul =>
    cases d <;> cases e <;> simp only [opD] at hf <;> try (cases hf; done)
    · split at hf
      · rename_i hz
        cases hf
        rw [rpInt] at hd he
        exact op_mulW pins s σ H x y v u Q I rx ry ⟨_, _, hd, he, hz, g.int⟩
      · cases hf
    · split at hf
      · rename_i hz
        cases hf
        rw [rpInt] at he
        rw [rpLst] at hd
        obtain ⟨a, xs, ex, h1, h2⟩ := hd
        obtain ⟨k1, k2, k3⟩ := hz
        have hz := of_decide_eq_true k3
        rw [← h2.len] at hz
        exact thn (op_repF pins s σ H x y v u _ I rx ry ⟨a, _, xs, ex, he, h1, k1, k2, hz, fun p hp => ⟨p, rfl, hp, rfl⟩⟩) fun _ _ z => sealL (g.lst (h2.rep _)) z
      · cases hf
    · split at hf
      · rename_i hz
        cases hf
        rw [rpInt] at he
        rw [rpTup] at hd
        obtain ⟨a, xs, ex, h1, h2⟩ := hd
        obtain ⟨k0, k1, k2, k3⟩ := hz
        refine op_repK (flatK _) pins s σ H x y v u _ I rx ry ⟨a, _, xs, ex, he, h1.sq c.cc, ?_, k1, k2, ?_, g.tup (h2.rep _)⟩
        · intro z
          have := h2.len
          rw [z] at this
          have z2 := List.eq_nil_of_length_eq_zero this.symm
          rw [z2] at k0
          cases k0
        · rw [h2.len]
          exact k3
      · cases hf
  | fdiv =>
    cases d <;> cases e <;> simp only [opD] at hf <;> try (cases hf; done)
    split at hf
    · rename_i hz
      cases hf
      rw [rpInt] at hd he
      exact op_fdivW pins s σ H x y v u Q I rx ry ⟨_, _, hd, he, hz, g.int⟩
    · cases hf
  | mod =>
    cases d <;> cases e <;> simp only [opD] at hf <;> try (cases hf; done)
    split at hf
    · rename_i hz
      cases hf
      rw [rpInt] at hd he
      exact op_mod pins s σ H x y v u Q I rx ry ⟨_, _, hd, he, hz, g.int⟩
    · cases hf
  | pow =>
    cases d <;> cases e <;> simp only [opD] at hf <;> try (cases hf; done)
    split at hf
    · rename_i hz
      cases hf
      rw [rpInt] at hd he
      exact op_pow pins s σ H x y v u Q I rx ry ⟨_, _, hd, he, hz, g.int⟩
    · cases hf
end
end PL


set_option Elab.async false
set_option linter.all false
set_option maxRecDepth 100000
/-! PLc: comparisons, dicts asked, built-in functions, items. -/
namespace PL
open PySem PySem.Spec PyProof.Rows L2

/-- the module's tuples are those told -/
def TOk (p : PrW) (T : List D) : Prop := ∀ a xs, p.C a = some xs → ∀ K H ds, RpA p K H ds xs → T.any (fun t => PyData.eqv t (.tuple ds)) = true
def ORp (p : PrW) (K : PySem.W.Frag) (H : Hp) : Option D → Option V → Prop
  | none, none => True
  | some d, some v => Rp p K H d v
  | _, _ => False
section
variable {p : PrW} {K : PySem.W.Frag} {H : Hp} {T : List D}
theorem ORp.isSome {o : Option D} {u : Option V} (h : ORp p K H o u) : o.isSome = u.isSome := by
  cases o <;> cases u <;> first | rfl | exact h.elim
theorem ORp.getD {o : Option D} {u : Option V} {d : D} {v : V} (h : ORp p K H o u) (h' : Rp p K H d v) : Rp p K H (o.getD d) (u.getD v) := by
  cases o <;> cases u <;> first | exact h' | exact h | exact h.elim
theorem ORp.same {H' : Hp} {o : Option D} {u : Option V} (h : ORp p K H o u) (s : Same H H') : ORp p K H' o u := by
  cases o <;> cases u <;> first | trivial | exact Rp.keep s.kp _ _ h | exact h.elim
theorem kdOf_key (q : Key) : kdOf T (keyD q) = some (.k q) := by cases q <;> rfl
theorem keysOf_map : ∀ q : List Key, keysOf (q.map keyD) = some q
  | [] => rfl
  | k :: r => by
    show (keyOf (keyD k)).bind _ = _
    have e : keyOf (keyD k) = some k := by cases k <;> rfl
    rw [e]
    show (keysOf (r.map keyD)).map _ = _
    rw [keysOf_map r]
    rfl
theorem flatK_keys : ∀ q : List Key, flatK (q.map keyD) = true
  | [] => rfl
  | .inl _ :: r => flatK_keys r
  | .inr _ :: r => flatK_keys r
theorem keysOf_eq : ∀ {ds : List D} {q : List Key}, keysOf ds = some q → ds = q.map keyD
  | [], q, h => by
    simp only [keysOf] at h
    cases h
    rfl
  | d :: r, q, h => by
    simp only [keysOf, Option.bind_eq_some_iff, Option.map_eq_some_iff] at h
    obtain ⟨k, h1, l, h2, h3⟩ := h
    subst h3
    have e : d = keyD k := by
      cases d <;> simp only [keyOf] at h1 <;> first | (cases h1; done) | (cases h1; rfl)
    rw [e, keysOf_eq h2]
    rfl
theorem kdOf_tup {q : List Key} {k : Kd} (h : kdOf T (.tuple (q.map keyD)) = some k) : k = .t q := by
  simp only [kdOf] at h
  split at h
  · cases h
  · rw [keysOf_map] at h
    cases h
    rfl
theorem rpA_keys : ∀ {q : List Key} {xs : List V}, RpA p K H (q.map keyD) xs → xs = q.map kV
  | [], _, h => by simpa only [List.map_nil, RpA] using h
  | k :: r, _, h => by
    simp only [List.map_cons, RpA] at h
    obtain ⟨v, vs, e, h1, h2⟩ := h
    rw [e, rpA_keys h2]
    cases k with
    | inl i => rw [rpInt.mp h1]; rfl
    | inr x => rw [rpStr.mp h1]; rfl
theorem rpD_look {k : Key} : ∀ {kvs : List (D × D)} {kk : List (Key × V)}, RpD p K H kvs kk → ORp p K H (lookD T kvs (.k k)) (valV kk k)
  | [], _, h => by
    simp only [RpD] at h
    subst h
    trivial
  | (dk, d) :: r, _, h => by
    simp only [RpD] at h
    obtain ⟨q, v, l', e, e2, h1, h2⟩ := h
    subst e e2
    by_cases hq : q = k
    · subst hq
      simp only [lookD, kdOf_key, if_true]
      rw [valV_pos rfl]
      exact h1
    · have e3 : ¬ (some (Kd.k q) = some (Kd.k k)) := fun z => hq (by cases z; rfl)
      simp only [lookD, kdOf_key, if_neg e3]
      rw [valV_neg hq]
      exact rpD_look h2
theorem rpT_look {k : List Key} : ∀ {kvs : List (D × D)} {kk : List (List Key × V)}, RpT p K H kvs kk → kdAll T (.t k) kvs = true → ORp p K H (lookD T kvs (.t k)) (valV kk k)
  | [], _, h, _ => by
    simp only [RpT] at h
    subst h
    trivial
  | (dk, d) :: r, _, h, ha => by
    simp only [RpT] at h
    obtain ⟨q, v, l', e, e2, h1, h2⟩ := h
    subst e e2
    simp only [kdAll, Bool.and_eq_true] at ha
    obtain ⟨ha, hr⟩ := ha
    cases e4 : kdOf T (.tuple (q.map keyD)) with
    | none => rw [e4] at ha; cases ha
    | some k' =>
      have e5 := kdOf_tup e4
      subst e5
      by_cases hq : q = k
      · subst hq
        simp only [lookD, e4, if_true]
        rw [valV_pos rfl]
        exact h1
      · have e3 : ¬ (some (Kd.t q) = some (Kd.t k)) := fun z => hq (by cases z; rfl)
        simp only [lookD, e4, if_neg e3]
        rw [valV_neg hq]
        exact rpT_look h2 hr
/-- a tuple that may be a key is a tracked one -/
theorem rp_key (tk : TOk p T) {d : D} {ks : List Key} {v : V} (h : Rp p K H d v) (e : kdOf T d = some (.t ks)) : ∃ b, v = .ref b ∧ H b = some (.tup (ks.map kV)) ∧ d = .tuple (ks.map keyD) := by
  cases d with
  | tuple ds =>
    simp only [kdOf] at e
    split at e
    · cases e
    · rename_i hT
      obtain ⟨q, e1, e2⟩ := Option.map_eq_some_iff.mp e
      cases e2
      obtain ⟨a, xs, ev, h1, h2⟩ := rpTup.mp h
      have ed := keysOf_eq e1
      rcases h1 with ⟨_, h1⟩ | ⟨ef, _⟩ | h1
      · refine ⟨a, ev, ?_, by rw [ed]⟩
        rw [ed] at h2
        rw [h1, rpA_keys h2]
      · rw [ed, flatK_keys] at ef
        cases ef
      · exact absurd (tk a xs h1 K H ds h2) hT
  | _ => simp [kdOf] at e
theorem rp_key1 {d : D} {k : Key} {v : V} (h : Rp p K H d v) (e : kdOf T d = some (.k k)) : v = kV k ∧ d = keyD k := by
  cases d with
  | int i =>
    simp only [kdOf] at e
    cases e
    exact ⟨rpInt.mp h, rfl⟩
  | str x =>
    simp only [kdOf] at e
    cases e
    exact ⟨rpStr.mp h, rfl⟩
  | tuple ds =>
    simp only [kdOf] at e
    split at e
    · cases e
    · obtain ⟨q, _, e2⟩ := Option.map_eq_some_iff.mp e
      cases e2
  | _ => simp [kdOf] at e
theorem kdAll_k {k : Key} {kvs : List (D × D)} {kt : List (List Key × V)} (h : RpT p K H kvs kt) (ha : kdAll T (.k k) kvs = true) : kvs = [] := by
  cases kvs with
  | nil => rfl
  | cons pr r =>
    obtain ⟨dk, d⟩ := pr
    simp only [RpT] at h
    obtain ⟨q, v, l', e, e2, _⟩ := h
    subst e2
    simp only [kdAll, Bool.and_eq_true] at ha
    obtain ⟨ha, _⟩ := ha
    cases e4 : kdOf T (.tuple (q.map keyD)) with
    | none => rw [e4] at ha; cases ha
    | some k' =>
      have e5 := kdOf_tup e4
      subst e5
      rw [e4] at ha
      cases ha
theorem kdAll_t {k : List Key} {kvs : List (D × D)} {kt : List (Key × V)} (h : RpD p K H kvs kt) (ha : kdAll T (.t k) kvs = true) : kvs = [] := by
  cases kvs with
  | nil => rfl
  | cons pr r =>
    obtain ⟨dk, d⟩ := pr
    simp only [RpD] at h
    obtain ⟨q, v, l', e, e2, _⟩ := h
    subst e2
    simp only [kdAll, kdOf_key, Bool.and_eq_true] at ha
    obtain ⟨ha, _⟩ := ha
    cases ha
theorem kdAll_b {q : Kd} (hq : q.isB = false) {kvs : List (D × D)} {ks : List Bool} (h : kvs.map (·.1) = ks.map PyData.bool) (ha : kdAll T q kvs = true) : ks = [] := by
  cases kvs with
  | nil =>
    cases ks with
    | nil => rfl
    | cons b r => cases h
  | cons pr r =>
    cases ks with
    | nil => cases h
    | cons b l =>
      simp only [List.map_cons, List.cons.injEq] at h
      simp only [kdAll, h.1, kdOf, Bool.and_eq_true] at ha
      cases q <;> first | (cases ha.1; done) | (cases hq; done)
/-- a dict that stays is asked -/
theorem rp_dget (tk : TOk p T) {kvs : List (D × D)} {k : D} {o : Option D} {x y : V} (hd : Rp p K H (.dict kvs) x) (hk : Rp p K H k y) (e : getK T kvs k = some o) : ∃ a u, x = .ref a ∧ DGet H a y u ∧ ORp p K H o u ∧ IsD H a := by
  unfold getK at e
  obtain ⟨q, e1, e2⟩ := Option.bind_eq_some_iff.mp e
  unfold keyK at e1
  obtain ⟨q', e3, e4⟩ := Option.bind_eq_some_iff.mp e1
  split at e4
  · rename_i hb
    cases e4
    simp only [Bool.and_eq_true, Bool.not_eq_true'] at hb
    obtain ⟨hb, ha⟩ := hb
    split at e2
    · cases e2
    · rename_i hne
      cases e2
      simp only [Rp] at hd
      obtain ⟨a, ex, hd⟩ := hd
      refine ⟨a, ?_⟩
      rcases hd with ⟨od, kk, h1, h2⟩ | ⟨od, kt, h0, h1, h2⟩ | ⟨od, ks, h0, h1, h2⟩
      · cases q with
        | k key =>
          obtain ⟨ey, _⟩ := rp_key1 hk e3
          exact ⟨valV kk key, ex, .inl ⟨kk, key, .inr ⟨od, h1⟩, ey, rfl⟩, rpD_look h2, .inl ⟨kk, .inr ⟨od, h1⟩⟩⟩
        | t ks =>
          have z := kdAll_t h2 ha
          subst z
          exact absurd rfl hne
        | b z => cases hb
      · cases q with
        | k key =>
          have z := kdAll_k h2 ha
          subst z
          simp only [RpT] at h2
          exact absurd h2 h0
        | t ks =>
          obtain ⟨b, ey, hb2, _⟩ := rp_key tk hk e3
          exact ⟨valV kt ks, ex, .inr ⟨kt, ks, b, .inr ⟨od, h1⟩, ey, hb2, rfl⟩, rpT_look h2 ha, .inr ⟨kt, .inr ⟨od, h1⟩⟩⟩
        | b z => cases hb
      · exact absurd (kdAll_b hb h2 ha) h0
  · cases e4
end
end PL


set_option Elab.async false
set_option linter.all false
set_option maxRecDepth 100000
/-! PLd: comparisons, built-in functions, items, slices, by values. -/
namespace PL
open PySem PySem.Spec PyProof.Rows L2
section
variable {X : Cx} {C : Addr → Option (List V)} {T : List D}

def cmpPy : Cp → CmpOp
  | .eq => .Eq
  | .ne => .NotEq
  | .lt => .Lt
  | .le => .LtE
  | .gt => .Gt
  | .ge => .GtE
  | .isin => .In
  | .notin => .NotIn
def rC (p : PrW) (K : PySem.W.Frag) (f : D → D → Option Bool) : R2 := fun x y H Q => ∃ d e r, Rp p K H d x ∧ Rp p K H e y ∧ f d e = some r ∧ Q (.bl r) H
theorem shaped_lay {d : D} (h : SeqAt.shaped d = true) : d.canLay0 = true := by
  have h2 : (d.canLay0 && decide (d.depth ≤ 64)) = true := h
  exact (Bool.and_eq_true_iff.mp h2).1
theorem cmp2 (c : Ctx X C) (tk : TOk (pX X C) T) : ∀ o : Cp, OpR X (compareOp (cmpPy o)) (rC (pX X C) X.K (cmpD T o)) := by
  intro o pins s σ H x y v u Q I rx ry ⟨d, e, r, hd, he, hf, q⟩
  have hu := c.hu
  cases o with
  | eq =>
    simp only [cmpD] at hf
    split at hf
    · rename_i hs
      cases hf
      obtain ⟨h1, h2⟩ := Bool.and_eq_true_iff.mp hs
      exact op_eqD (by omega) pins s σ H x y v u Q I rx ry ⟨d, e, Rp.dp c.cc d x hd (shaped_lay h1), Rp.dp c.cc e y he (shaped_lay h2), h1, h2, q⟩
    · cases hf
  | ne =>
    simp only [cmpD] at hf
    split at hf
    · rename_i hs
      cases hf
      obtain ⟨h1, h2⟩ := Bool.and_eq_true_iff.mp hs
      exact op_neD (by omega) pins s σ H x y v u Q I rx ry ⟨d, e, Rp.dp c.cc d x hd (shaped_lay h1), Rp.dp c.cc e y he (shaped_lay h2), h1, h2, q⟩
    · cases hf
  | lt =>
    cases d <;> cases e <;> simp only [cmpD, ltD] at hf <;> try (cases hf; done)
    · cases hf
      rw [rpInt] at hd he
      exact op_lt pins s σ H x y v u Q I rx ry ⟨_, _, hd, he, q⟩
    · obtain ⟨xs, e1, e2⟩ := Option.bind_eq_some_iff.mp hf
      obtain ⟨ys, e3, e4⟩ := Option.map_eq_some_iff.mp e2
      subst e4
      obtain ⟨a, vs, ex, h1, h2⟩ := rpTup.mp hd
      obtain ⟨b, ws, ey, h3, h4⟩ := rpTup.mp he
      rw [h2.ints e1] at h1
      rw [h4.ints e3] at h3
      exact op_ltT (by omega) pins s σ H x y v u Q I rx ry ⟨a, b, xs, ys, ex, ey, h1.sq c.cc, h3.sq c.cc, q⟩
  | le =>
    cases d <;> cases e <;> simp only [cmpD] at hf <;> try (cases hf; done)
    cases hf
    rw [rpInt] at hd he
    exact op_le pins s σ H x y v u Q I rx ry ⟨_, _, hd, he, q⟩
  | gt =>
    cases d <;> cases e <;> simp only [cmpD] at hf <;> try (cases hf; done)
    cases hf
    rw [rpInt] at hd he
    exact op_gt pins s σ H x y v u Q I rx ry ⟨_, _, hd, he, q⟩
  | ge =>
    cases d <;> cases e <;> simp only [cmpD] at hf <;> try (cases hf; done)
    cases hf
    rw [rpInt] at hd he
    exact op_ge pins s σ H x y v u Q I rx ry ⟨_, _, hd, he, q⟩
  | isin =>
    cases e <;> simp only [cmpD] at hf <;> try (cases hf; done)
    · split at hf
      · rename_i ds hs
        cases hf
        obtain ⟨h1, h2⟩ := Bool.and_eq_true_iff.mp hs
        obtain ⟨as, r1⟩ := Dp.reads I d x v (Rp.dp c.cc d x hd (shaped_lay h1)) rx
        obtain ⟨bs, r2⟩ := Dp.reads I _ y u (Rp.dp c.cc _ y he (shaped_lay h2)) ry
        exact SeqAt.in_tuple_reads r2 r1 (SeqAt.canLay_of_shaped h2) (SeqAt.canLay_of_shaped h1) (room_in_shaped h1 (by omega)) ⟨.bl _, H, I, rfl, q⟩
      · cases hf
    · obtain ⟨o, e1, e2⟩ := Option.map_eq_some_iff.mp hf
      subst e2
      obtain ⟨a, uo, ey, g, ro, _⟩ := rp_dget tk he hd e1
      subst ey
      cases ry
      exact d_in (by omega) I g rx fun s' I' => ⟨.bl o.isSome, H, I', by rw [ro.isSome]; rfl, q⟩
  | notin =>
    cases e <;> simp only [cmpD] at hf <;> try (cases hf; done)
    · split at hf
      · rename_i ds hs
        cases hf
        obtain ⟨h1, h2⟩ := Bool.and_eq_true_iff.mp hs
        obtain ⟨as, r1⟩ := Dp.reads I d x v (Rp.dp c.cc d x hd (shaped_lay h1)) rx
        obtain ⟨bs, r2⟩ := Dp.reads I _ y u (Rp.dp c.cc _ y he (shaped_lay h2)) ry
        exact SeqAt.notIn_tuple_reads r2 r1 (SeqAt.canLay_of_shaped h2) (SeqAt.canLay_of_shaped h1) (room_in_shaped h1 (by omega)) ⟨.bl _, H, I, rfl, q⟩
      · cases hf
    · obtain ⟨o, e1, e2⟩ := Option.map_eq_some_iff.mp hf
      subst e2
      obtain ⟨a, uo, ey, g, ro, _⟩ := rp_dget tk he hd e1
      subst ey
      cases ry
      exact d_notIn (by omega) I g rx fun s' I' => ⟨.bl (!o.isSome), H, I', by rw [ro.isSome]; rfl, q⟩

/-! ### items -/
/-- an item by the type's own way, its value told behind -/
theorem tail_of {A : Around} {E : Value → Shared → Prop} {s : Shared} {value slice : Expr} {o i : Value} {U id : String} {Q : Value → Shared → Prop} (hT : s.TypeIs o U) (hl : typeLookup (.type U) "__getitem__" = pure (some (.builtin id)))
    (h : wpAny (model X.prog X.w) A (getItem o i) Q E s) (hs : subscripted slice false o i = operate [o, i] (getItem o i)) : wpAny (model X.prog X.w) A (subscriptTail value slice o i) Q E s := by
  unfold subscriptTail
  refine wpAny_bind ?_
  rw [getitemInPython_of_ne hT.not_modules]
  refine wpAny_bind (wpAny_specialOf hT hl ?_)
  have z : wpAny (model X.prog X.w) A (subscripted slice false o i) (fun r s₃ => wpAny (model X.prog X.w) A (letTemporaryGo value o r >>= fun _ => pure r) Q E s₃) E s :=
    hs ▸ wpAny_operating (thn h fun r s₃ h₃ => wpAny_bind (wpAny_letTemporaryGo (wpAny_pure h₃)))
  first
    | exact wpAny_bind (wpAny_pure (wpAny_bind z))
    | exact wpAny_pure (wpAny_bind z)
    | exact wpAny_bind z
theorem atI_get2 {p : PrW} {K : PySem.W.Frag} {H : Hp} {ds : List D} {xs : List V} {i : Int} {r : D} (h : RpA p K H ds xs) (e : atI ds i = some r) : ∃ v, atI xs i = some v ∧ Rp p K H r v := by
  unfold atI at e ⊢
  rw [h.len]
  obtain ⟨j, e1, e2⟩ := Option.bind_eq_some_iff.mp e
  obtain ⟨v, e3, rv⟩ := h.get e2
  exact ⟨v, by rw [e1]; exact e3, rv⟩
theorem ix2 (c : Ctx X C) (tk : TOk (pX X C) T) : ∀ (d e r : D), ixD T d e = some r → ∀ (value slice : Expr) (pins : List (Addr × Obj)) (s : Shared) (σ : L2.St) (H : Hp) (x y : V) (v u : Value) (Q : VK), Inv X pins σ H s → RelV x v → RelV y u → Rp (pX X C) X.K H d x → Rp (pX X C) X.K H e y → Give (pX X C) X.K H r Q →
    subscripted slice false v u = operate [v, u] (getItem v u) → wpAny (model X.prog X.w) X.A (subscriptTail value slice v u) (EP X pins σ Q) X.xe s := by
  intro d e r hf value slice pins s σ H x y v u Q I rx ry hd he g hs
  have hu := c.hu
  cases d with
  | list ds =>
    cases e <;> simp only [ixD] at hf <;> try (cases hf; done)
    obtain ⟨a, xs, ex, h1, h2⟩ := rpLst.mp hd
    obtain ⟨w', e1, e2⟩ := atI_get2 h2 hf
    exact ix_list value slice pins s σ H x y v u Q I rx ry ⟨a, xs, _, w', ex, rpInt.mp he, h1.sq, e1, g _ H (Same.refl H) e2⟩ hs
  | tuple ds =>
    cases e <;> simp only [ixD] at hf <;> try (cases hf; done)
    obtain ⟨a, xs, ex, h1, h2⟩ := rpTup.mp hd
    obtain ⟨w', e1, e2⟩ := atI_get2 h2 hf
    exact ix_tup value slice pins s σ H x y v u Q I rx ry ⟨a, xs, _, w', ex, rpInt.mp he, h1.sq c.cc, e1, g _ H (Same.refl H) e2⟩ hs
  | dict kvs =>
    simp only [ixD] at hf
    obtain ⟨o, e1, e2⟩ := Option.bind_eq_some_iff.mp hf
    have e3 : o = some r := e2
    subst e3
    obtain ⟨a, uo, ex, dg, ro, di⟩ := rp_dget tk hd he e1
    cases uo with
    | none => exact ro.elim
    | some w' =>
      subst ex
      cases rx
      exact tail_of (dict_typeIs I dg) PySem.F.slot_dict_getitem.lookup (d_getItem (by omega) I dg ry fun w2 s3 I3 rw3 => ⟨w', H, I3, rw3, g _ H (Same.refl H) ro⟩) hs
  | _ => simp [ixD] at hf
end
end PL


set_option Elab.async false
set_option linter.all false
set_option maxRecDepth 100000
/-! PLf: calls of built-in functions, by values. -/
namespace PL
open PySem PySem.Spec PyProof.Rows L2
open PySem.W (EachIs)
section
variable {X : Cx} {C : Addr → Option (List V)} {T : List D}

def biVal : Bi → Value
  | .len => .builtin "len"
  | .abs => .builtin "abs"
  | .int => .type "int"
  | .gcd => .builtin "math.gcd"
  | .lcm => .builtin "math.lcm"
  | .comb => .builtin "math.comb"
  | .sum => .builtin "sum"
  | .all => .builtin "all"
  | .any => .builtin "any"
  | .sorted => .builtin "sorted"
  | .tuple => .type "tuple"
  | .list => .type "list"
  | .dict => .type "dict"
  | .max => .builtin "max"
  | .min => .builtin "min"
theorem RpA.one {p : PrW} {K : PySem.W.Frag} {H : Hp} {d : D} {xs : List V} (h : RpA p K H [d] xs) : ∃ v, xs = [v] ∧ Rp p K H d v := by
  simp only [RpA] at h
  obtain ⟨v, vs, e, h1, h2⟩ := h
  subst h2
  exact ⟨v, e, h1⟩
theorem RpA.two {p : PrW} {K : PySem.W.Frag} {H : Hp} {d e : D} {xs : List V} (h : RpA p K H [d, e] xs) : ∃ v u, xs = [v, u] ∧ Rp p K H d v ∧ Rp p K H e u := by
  simp only [RpA] at h
  obtain ⟨v, vs, e1, h1, u, us, e2, h2, h3⟩ := h
  subst e2 h3
  exact ⟨v, u, e1, h1, h2⟩
/-- len of a dict that stays -/
theorem len_dict (pins : List (Addr × Obj)) (s : Shared) (σ : L2.St) (H : Hp) (kvs : List (D × D)) (v : V) (u : Value) (Q : VK) (I : Inv X pins σ H s) (r : RelV v u) (hd : Rp (pX X C) X.K H (.dict kvs) v) (q : Q (.int kvs.length) H) :
    wpAny (model X.prog X.w) X.A (call (.builtin "len") [u]) (EP X pins σ Q) X.xe s := by
  simp only [Rp] at hd
  obtain ⟨a, ev, hd⟩ := hd
  subst ev
  cases r
  rcases hd with ⟨o, kk, h1, h2⟩ | ⟨o, kt, h0, h1, h2⟩ | ⟨o, ks, h0, h1, h2⟩
  · have el : kk.length = kvs.length := by
      clear q h1
      induction kvs generalizing kk with
      | nil => simp only [RpD] at h2; subst h2; rfl
      | cons p r ih =>
        obtain ⟨k, d⟩ := p
        simp only [RpD] at h2
        obtain ⟨_, _, l', e, _, _, h3⟩ := h2
        subst e
        simp [ih l' h3]
    exact d_len I (.inr ⟨o, h1⟩) fun t s' I' => ⟨.int kvs.length, H, I', ⟨t, by rw [el]⟩, q⟩
  · have el : kt.length = kvs.length := by
      clear q h1 h0
      induction kvs generalizing kt with
      | nil => simp only [RpT] at h2; subst h2; rfl
      | cons p r ih =>
        obtain ⟨k, d⟩ := p
        simp only [RpT] at h2
        obtain ⟨_, _, l', e, _, _, h3⟩ := h2
        subst e
        simp [ih l' h3]
    obtain ⟨z, hs, ys, rel, dd⟩ := dt_rd I.hok (show Rd H a (.dT kt) from .inr ⟨o, h1⟩)
    have hl : kt.length = ys.length := Paired.length rel
    refine call_len_dictH hs dd (by rw [← hl]; rw [sizeLine_eq] at z; omega) ?_
    exact ⟨.int kvs.length, H, I.tok _, ⟨_, by rw [← hl, el]⟩, q⟩
  · have el : ks.length = kvs.length := by
      have := congrArg List.length h2
      simpa using this.symm
    obtain ⟨_, hx⟩ := (show ObjOk X.prog X.w H s.heap a (.frz o (boolO X.prog X.w a ks)) from I.hok a _ h1)
    obtain ⟨⟨hs, hz, vs, dd, hk⟩, _⟩ := hx
    have hl : vs.length = ks.length := by
      have := congrArg List.length hk
      simpa using this
    refine call_len_dict hs dd ?_ ?_
    · rw [hl]
      rw [sizeLine_eq] at hz
      omega
    · exact ⟨.int kvs.length, H, I.tok _, ⟨_, by rw [hl, el]⟩, q⟩
theorem sort_vals {p : PrW} {K : PySem.W.Frag} {H : Hp} : ∀ {ds : List D} {out : List Value}, EachIs (fun u d => ∃ v, RelV v u ∧ Rp p K H d v) out ds → ∃ vs, Vals vs out ∧ RpA p K H ds vs
  | _, _, .nil => ⟨[], .nil, .nil⟩
  | _, _, .cons ⟨v, r, h⟩ t => by
    obtain ⟨vs, r2, h2⟩ := sort_vals t
    exact ⟨v :: vs, .cons r r2, .cons h h2⟩
theorem sort_each {p : PrW} {K : PySem.W.Frag} {H : Hp} : ∀ {ds : List D} {vs : List V} {us : List Value}, RpA p K H ds vs → Vals vs us → EachIs (fun u d => ∃ v, RelV v u ∧ Rp p K H d v) us ds
  | [], _, _, h, r => by
    simp only [RpA] at h
    subst h
    cases r
    exact .nil
  | d :: ds, _, _, h, r => by
    simp only [RpA] at h
    obtain ⟨v, vs, e, h1, h2⟩ := h
    subst e
    cases r with
    | cons r1 r2 => exact .cons ⟨v, r1, h1⟩ (sort_each h2 r2)
theorem sort_reads (c : Ctx X C) {pins : List (Addr × Obj)} {s : Shared} {σ : L2.St} {H : Hp} (I : Inv X pins σ H s) : ∀ {ds : List D} {vs : List V} {us : List Value}, RpA (pX X C) X.K H ds vs → Vals vs us → PyData.canLayAll0 ds = true → EachIs (fun u d => ∃ as, Reads s.heap u (id d) as) us ds
  | [], _, _, h, r, _ => by
    simp only [RpA] at h
    subst h
    cases r
    exact .nil
  | d :: ds, _, _, h, r, l => by
    simp only [RpA] at h
    obtain ⟨v, vs, e, h1, h2⟩ := h
    subst e
    simp only [PyData.canLayAll0, Bool.and_eq_true] at l
    cases r with
    | cons r1 r2 => exact .cons (Dp.reads I d v _ (Rp.dp c.cc d v h1 l.1) r1) (sort_reads c I h2 r2 l.2)
theorem all_lay : ∀ ds : List D, (∀ d ∈ ds, d.canLay0 = true) → PyData.canLayAll0 ds = true
  | [], _ => by simp only [PyData.canLayAll0]
  | d :: ds, h => by
    simp only [PyData.canLayAll0, Bool.and_eq_true]
    exact ⟨h d List.mem_cons_self, all_lay ds fun x hx => h x (List.mem_cons_of_mem _ hx)⟩
/-- sorted(xs) -/
theorem call_sortD (c : Ctx X C) (pins : List (Addr × Obj)) (s : Shared) (σ : L2.St) (H : Hp) (ds : List D) (r : D) (v : V) (u : Value) (Q : VK) (I : Inv X pins σ H s) (rv : RelV v u) (hd : Rp (pX X C) X.K H (.list ds) v) (e : sortD ds = some r) (g : Give (pX X C) X.K H r Q) :
    wpAny (model X.prog X.w) X.A (call (.builtin "sorted") [u]) (EP X pins σ Q) X.xe s := by
  unfold sortD at e
  split at e
  · rename_i ho
    cases e
    unfold sortOk at ho
    simp only [Bool.and_eq_true, Bool.or_eq_true, List.all_eq_true] at ho
    obtain ⟨⟨h1, h2⟩, h3⟩ := ho
    obtain ⟨a, xs, ev, h5, h6⟩ := rpLst.mp hd
    subst ev
    cases rv
    obtain ⟨its, r', pl, hz⟩ := I.list h5.sq
    have hal : PySem.W.AllAlike (ds.map id) := by
      rw [List.map_id]
      exact fun d hd' d' hd'' => h1 d hd' d' hd''
    have hk : PySem.W.Sortable (ds.map id) := by
      rw [List.map_id]
      rcases h2 with h2 | h2
      · refine .inl fun d hd' => ?_
        have z := h2 d hd'
        cases d with
        | tuple l =>
          cases l with
          | nil => cases z
          | cons x t => exact ⟨x, t, rfl⟩
        | _ => cases z
      · refine .inr fun d hd' => ?_
        have z := h2 d hd'
        cases d with
        | tuple l => cases z
        | none => cases z
        | _ => exact ⟨(by intro q; cases q), (by intro _ q; cases q)⟩
    have lay : PyData.canLayAll0 ds = true := all_lay ds fun d hd' => shaped_lay (h3 d hd')
    have hl : ds.length ≤ sizeLine := by rw [← h6.len]; exact hz
    have hu := c.hu
    refine PySem.W.sorted_data (R := fun u d => ∃ v, RelV v u ∧ Rp (pX X C) X.K H d v) (enc := id) (bs := ds) (vs := its) pl.isList (sort_each h6 r') (sort_reads c I h6 r' lay) hal hk hl (fun b hb => ?_) fun out _ ho => ?_
    · have := SeqAt.depth_of_shaped (h3 b hb)
      show X.A.units + 2 + b.depth < cLine
      omega
    · obtain ⟨vs', r2, h7⟩ := sort_vals ho
      obtain ⟨ep, he⟩ := PyProof.Rows.sortedAll_at s.heap its out.toArray
      have hn : H (s.heap.objs.size + 1) = none := I.hok.fresh (Nat.le_succ _)
      have hl2 : vs'.length ≤ sizeLine := by
        rw [h7.len, List.length_mergeSort]
        exact hl
      have I2 := I.laid (t' := s.toks) (h' := PyProof.Rows.sortedAll s.heap its out.toArray) (a := s.heap.objs.size + 1) (o := .lst vs') (fun _ _ => PyProof.Rows.sortedAll_old) (Nat.le_succ _) ⟨hl2, out, ep, r2, he⟩
      exact sealL (g.lst h7) ⟨.ref _, _, I2, rfl, _, rfl, hn, rfl⟩
  · cases e
end
end PL


set_option Elab.async false
set_option linter.all false
set_option maxRecDepth 100000
/-! PLg: dict(pairs), list(..), and all calls of built-in functions at once. -/
namespace PL
open PySem PySem.Spec PyProof.Rows L2
open PySem.W (EachIs)
section
variable {X : Cx} {C : Addr → Option (List V)} {T : List D}

/-! ### a dict is stored to -/
theorem rpD_any {p : PrW} {K : PySem.W.Frag} {H : Hp} {k : Key} : ∀ {kvs : List (D × D)} {kk : List (Key × V)}, RpD p K H kvs kk → (kvs.any fun q => decide (kdOf T q.1 = some (.k k))) = kk.any fun q => decide (q.1 = k)
  | [], _, h => by
    simp only [RpD] at h
    subst h
    rfl
  | (dk, d) :: r, _, h => by
    simp only [RpD] at h
    obtain ⟨q, v, l', e, e2, _, h2⟩ := h
    subst e e2
    rw [List.any_cons, List.any_cons, rpD_any h2, kdOf_key]
    congr 1
    by_cases hq : q = k
    · subst hq; simp
    · rw [decide_eq_false hq, decide_eq_false (fun z => hq (by cases z; rfl))]
theorem rpD_map {p : PrW} {K : PySem.W.Frag} {H : Hp} {k : Key} {d : D} {v : V} (hv : Rp p K H d v) : ∀ {kvs : List (D × D)} {kk : List (Key × V)}, RpD p K H kvs kk →
    RpD p K H (kvs.map fun q => if kdOf T q.1 = some (.k k) then (q.1, d) else q) (kk.map fun q => if q.1 = k then (q.1, v) else q)
  | [], _, h => by
    simp only [RpD] at h
    subst h
    simp only [List.map_nil, RpD]
  | (dk, d') :: r, _, h => by
    simp only [RpD] at h
    obtain ⟨q, v', l', e, e2, h1, h2⟩ := h
    subst e e2
    rw [List.map_cons, List.map_cons]
    have ih := rpD_map (k := k) hv h2
    by_cases hq : q = k
    · subst hq
      simp only [kdOf_key, if_true]
      simp only [RpD]
      exact ⟨q, v, _, rfl, rfl, hv, ih⟩
    · have e3 : ¬ (some (Kd.k q) = some (Kd.k k)) := fun z => hq (by cases z; rfl)
      simp only [kdOf_key, if_neg e3, if_neg hq]
      simp only [RpD]
      exact ⟨q, v', _, rfl, rfl, h1, ih⟩
theorem rpD_app {p : PrW} {K : PySem.W.Frag} {H : Hp} {k : Key} {d : D} {v : V} (hv : Rp p K H d v) : ∀ {kvs : List (D × D)} {kk : List (Key × V)}, RpD p K H kvs kk → RpD p K H (kvs ++ [(keyD k, d)]) (kk ++ [(k, v)])
  | [], _, h => by
    simp only [RpD] at h
    subst h
    simp only [List.nil_append, RpD]
    exact ⟨k, v, [], rfl, rfl, hv, rfl⟩
  | (dk, d') :: r, _, h => by
    simp only [RpD] at h
    obtain ⟨q, v', l', e, e2, h1, h2⟩ := h
    subst e e2
    rw [List.cons_append, List.cons_append]
    simp only [RpD]
    exact ⟨q, v', _, rfl, rfl, h1, rpD_app hv h2⟩
theorem rpD_put {p : PrW} {K : PySem.W.Frag} {H : Hp} {k : Key} {d : D} {v : V} {kvs : List (D × D)} {kk : List (Key × V)} (h : RpD p K H kvs kk) (hv : Rp p K H d v) : RpD p K H (putD T kvs (keyD k) (.k k) d) (putK kk k v) := by
  unfold putD putK
  rw [rpD_any h]
  split
  · exact rpD_map hv h
  · exact rpD_app hv h
/-- pairs of a key and a value, laid as tuples: addresses, keys, values -/
inductive PrsAt (p : PrW) (K : PySem.W.Frag) (H : Hp) : List (D × D) → List Addr → List (Key × V) → Prop
  | nil : PrsAt p K H [] [] []
  | cons {k : Key} {d : D} {v : V} {a : Addr} {l : List (D × D)} {as : List Addr} {kk : List (Key × V)} (h : SqT K H a [kV k, v]) (hv : Rp p K H d v) (t : PrsAt p K H l as kk) : PrsAt p K H ((keyD k, d) :: l) (a :: as) ((k, v) :: kk)
theorem kd_is {d : D} (h : isKd T d = true) : ∃ k, kdOf T d = some (.k k) := by
  unfold isKd at h
  split at h
  · rename_i k e
    exact ⟨k, e⟩
  · cases h
theorem prs_of {p : PrW} {K : PySem.W.Frag} {H : Hp} (cc : COk p K) : ∀ {ds : List D} {vs : List V} {l : List (D × D)}, RpA p K H ds vs → toPairs ds = some l → (∀ q ∈ l, isKd T q.1 = true) → ∃ as kk, vs = as.map V.ref ∧ PrsAt p K H l as kk
  | [], _, _, h, e, _ => by
    simp only [RpA] at h
    simp only [toPairs] at e
    cases e
    exact ⟨[], [], h, .nil⟩
  | d :: ds, _, l, h, e, hk => by
    simp only [RpA] at h
    obtain ⟨v, vs, ev, h1, h2⟩ := h
    cases d with
    | tuple ts =>
      match ts, h1, e with
      | [dk, dv], h1, e =>
        simp only [toPairs, Option.map_eq_some_iff] at e
        obtain ⟨l', e1, e2⟩ := e
        subst e2
        obtain ⟨as, kk, e3, pr⟩ := prs_of cc h2 e1 fun q hq => hk q (List.mem_cons_of_mem _ hq)
        obtain ⟨a, xs, ea, t, r⟩ := rpTup.mp h1
        obtain ⟨x1, x2, ex, r1, r2⟩ := (show ∃ x1 x2, xs = [x1, x2] ∧ Rp p K H dk x1 ∧ Rp p K H dv x2 from by
          simp only [RpA] at r
          obtain ⟨x1, ys, q1, q2, x2, zs, q3, q4, q5⟩ := r
          subst q3 q5
          exact ⟨x1, x2, q1, q2, q4⟩)
        subst ex
        obtain ⟨k, ek⟩ := kd_is (hk (dk, dv) List.mem_cons_self)
        obtain ⟨e5, e6⟩ := rp_key1 r1 ek
        subst e5 e6
        exact ⟨a :: as, (k, x2) :: kk, by rw [ev, ea, e3]; rfl, .cons (t.sq cc) r2 pr⟩
      | [], _, e => simp [toPairs] at e
      | [_], _, e => simp [toPairs] at e
      | _ :: _ :: _ :: _, _, e => simp [toPairs] at e
    | _ => simp [toPairs] at e
theorem dict_fold {p : PrW} {K : PySem.W.Frag} {H : Hp} : ∀ {l : List (D × D)} {as : List Addr} {kk : List (Key × V)} {acc res : List (D × D)} {ka : List (Key × V)}, PrsAt p K H l as kk → RpD p K H acc ka → dictOfPairs T acc l = some res → RpD p K H res (mergeK ka kk)
  | _, _, _, _, _, _, .nil, h, e => by
    simp only [dictOfPairs] at e
    cases e
    exact h
  | _, _, _, _, _, _, .cons (k := k) (d := d) (v := v) h1 hv t, h, e => by
    simp only [dictOfPairs] at e
    obtain ⟨q, e1, e2⟩ := Option.bind_eq_some_iff.mp e
    unfold keyK at e1
    rw [kdOf_key, Option.bind_some] at e1
    split at e1
    · cases e1
      have z := dict_fold t (rpD_put (T := T) h hv) e2
      exact z
    · cases e1
/-- the machine's side of such pairs -/
theorem prs_vals {pins : List (Addr × Obj)} {s : Shared} {σ : L2.St} {p : PrW} {H : Hp} (I : Inv X pins σ H s) : ∀ {l : List (D × D)} {as : List Addr} {kk : List (Key × V)}, PrsAt p X.K H l as kk →
    ∃ (ps : List (Value × Value)) (ks : List (Key × Value)), ps.length = as.length ∧ ks.length = as.length ∧ KV kk ks ∧ ∀ (j : Nat) (x y : Value), ps[j]? = some (x, y) → ∃ (a : Addr) (k : Key), as[j]? = some a ∧ IsTup s.heap a #[x, y] ∧ ks[j]? = some (k, y) ∧ keyIs k x = true
  | _, _, _, .nil => ⟨[], [], rfl, rfl, .nil, fun j x y e => by simp at e⟩
  | _, _, _, .cons (k := k) (v := v) (a := a) h1 hv t => by
    obtain ⟨ps, ks, l1, l2, kv, f⟩ := prs_vals I t
    obtain ⟨its, r, ht, _⟩ := I.tuple h1
    cases r with
    | cons r1 r2 =>
      cases r2 with
      | cons r2 r3 =>
        cases r3
        rename_i u1 u2
        refine ⟨(u1, u2) :: ps, (k, u2) :: ks, by simp [l1], by simp [l2], .cons ⟨rfl, r2⟩ kv, fun j x y e => ?_⟩
        cases j with
        | zero =>
          simp at e
          obtain ⟨e1, e2⟩ := e
          subst e1 e2
          exact ⟨a, k, rfl, ht, rfl, by simpa [mixKind] using kV_is (P := X.prog) (w := X.w) r1⟩
        | succ j =>
          obtain ⟨a', k', f1, f2, f3, f4⟩ := f j x y (by simpa using e)
          exact ⟨a', k', by simpa using f1, f2, by simpa using f3, f4⟩
/-- dict(a tuple of pairs) -/
theorem call_dictD (c : Ctx X C) (pins : List (Addr × Obj)) (s : Shared) (σ : L2.St) (H : Hp) (ds : List D) (r : D) (v : V) (u : Value) (Q : VK) (I : Inv X pins σ H s) (rv : RelV v u) (hd : Rp (pX X C) X.K H (.tuple ds) v) (e : biD T .dict [.tuple ds] = some r) (g : Give (pX X C) X.K H r Q) :
    wpAny (model X.prog X.w) X.A (call (.type "dict") [u]) (EP X pins σ Q) X.xe s := by
  simp only [biD] at e
  split at e
  · cases e
  · rename_i hne
    obtain ⟨l, e1, e2⟩ := Option.bind_eq_some_iff.mp e
    unfold mkDict at e2
    split at e2
    · rename_i ho
      simp only [List.all_eq_true] at ho
      have h1 := ho
      obtain ⟨res, e3, e4⟩ := Option.map_eq_some_iff.mp e2
      subst e4
      obtain ⟨a, xs, ev, t, rr⟩ := rpTup.mp hd
      subst ev
      cases rv
      obtain ⟨as, kk, ex, pr⟩ := prs_of c.cc rr e1 h1
      subst ex
      obtain ⟨ps, ks, l1, l2, kv, f⟩ := prs_vals I pr
      have rpd := dict_fold pr (acc := []) (ka := []) (by simp only [RpD]) e3
      -- the tuple's own object bears no dict
      have hfl : flatK ds = false := by
        cases ds with
        | nil => exact absurd rfl hne
        | cons d ds' =>
          cases d with
          | tuple ts => rfl
          | _ => simp [toPairs] at e1
      have pl : ∃ n, PySem.PlainSeq "tuple" s.heap a (as.map Value.ref).toArray ∧ n = 0 := by
        rcases t with ⟨z, _⟩ | ⟨_, o, h5, h6⟩ | h5
        · rw [hfl] at z; cases z
        · obtain ⟨ho, hz, its, r', ob, hob, hcl, n, hdat⟩ := (show ObjOk X.prog X.w H s.heap a (.frz o (.tup (as.map V.ref))) from I.hok a _ h5)
          rw [ho] at hob
          cases hob
          have ei := refs_at r'
          subst ei
          exact ⟨0, ⟨o, n, ho, hcl, h6, hdat⟩, rfl⟩
        · obtain ⟨o, its, n, k1, k2, k3, k4, k5, k6⟩ := c.cc a _ h5
          have ei := refs_at k6
          have e9 : its = (as.map Value.ref).toArray := by rw [← ei]
          exact ⟨0, ⟨o, n, I.kIn a o k1, k2, k3, by rw [k4, e9]⟩, rfl⟩
      obtain ⟨_, pl, _⟩ := pl
      have hal : as.length = l.length := by
        clear f kv l1 l2 rpd rr hd pl t e3 e2 e1 h1 ho hne e hfl I
        induction pr with
        | nil => rfl
        | cons _ _ _ ih => simp [ih]
      have hsz : l.length ≤ sizeLine := by
        obtain ⟨_, _, _, hz⟩ := I.tuple (t.sq c.cc)
        rw [← hal]
        simpa using hz
      refine call_dict_pairs (knd := mixKind X.prog X.w) (kvs := ks) (n := ps.length) (PairArg.tuple a (as.map Value.ref).toArray (fun j => as.getD j 0) ps) (I.ok.hd c.calm) ⟨pl, by simp [l1], fun j x y e => ?_⟩ ⟨by rw [l2, l1], fun j x y e => ?_⟩ (by rw [l1, hal]; exact hsz) fun h' tk hd' hk' => ?_
      · obtain ⟨a', k', f1, f2, f3, f4⟩ := f j x y e
        exact ⟨by simp [f1, List.getD_eq_getElem?_getD], .inl (by show s.heap.IsTuple (as.getD j 0) #[x, y]; rw [List.getD_eq_getElem?_getD, f1]; exact f2)⟩
      · obtain ⟨a', k', f1, f2, f3, f4⟩ := f j x y e
        exact ⟨k', f3, f4⟩
      · have hm : (s.heap.objs.size == sysModules) = false := beq_eq_false_iff_ne.mpr (Nat.ne_of_gt I.big)
        have hlen : (mergeK [] kk).length ≤ sizeLine := by
          refine Nat.le_trans (length_mergeK kk []) ?_
          have z := kv.length
          rw [l2, hal] at z
          simp only [List.length_nil, Nat.zero_add]
          omega
        have hn := I.fresh
        have I2 := I.laid (t' := tk) (h' := h') (a := s.heap.objs.size) (o := .dK (mergeK [] kk)) (fun b o e => hk' b o (by simp) e) (Nat.le_refl _) ⟨hlen, hm, merged [] ks, KV.merge kv .nil, hd'⟩
        exact sealD (o := .dK (mergeK [] kk)) True.intro (fun q od hq => g _ _ (same_new hq) (by
          simp only [Rp]
          exact ⟨q, rfl, .inl ⟨od, mergeK [] kk, upd_same, RpD.keep (same_new hq).kp _ _ rpd⟩⟩)) ⟨.ref s.heap.objs.size, _, I2, rfl, _, rfl, hn, rfl⟩
    · cases e2
end
end PL


set_option Elab.async false
set_option linter.all false
set_option maxRecDepth 100000
/-! PLh: what a loop goes through. -/
namespace PL
open PySem PySem.Spec PyProof.Rows L2
/-! ### enumerate of a tuple -/
def IteT (K : PySem.W.Frag) (a : Addr) : It :=
  ⟨fun i H => ∃ (xs : List V) (x : V), SqT K H a xs ∧ xs[i]? = some x, fun i H v H' => ∃ T x, v = .ref T ∧ H T = none ∧ H' = upd H T (.tup [.int (i : Nat), x]) ∧ ∀ xs, SqT K H a xs → xs[i]? = some x, fun i H => ∃ xs : List V, SqT K H a xs ∧ xs.length = i⟩
theorem turn_enumT {P : Program} {w : World} {K : PySem.W.Frag} {elts : List Expr} {kk : Nat} {tpos : Pos} (a e it : Addr) (hea : a ≠ it) (hea2 : a ≠ e) :
    Turn P w K (.Tuple elts kk tpos) (IteT K a) [e, it] e (fun i h => (∃ old, IsEnum h e it ((i : Nat) : Int) old) ∧ h.IsTupleIter it a i ∧ e ≠ it) where
  mem := by simp
  obj := fun i h st b hb => by
    obtain ⟨⟨old, he⟩, ⟨o, ho, hc, hd⟩, _⟩ := st
    have e' : b = e ∨ b = it := by simpa using hb
    rcases e' with z | z
    · rw [z]; exact ⟨_, he, fun v q => nomatch q⟩
    · rw [z]; exact ⟨o, ho, fun v q => by rw [hd] at q; cases q⟩
  keep := fun i h h' st k => let ⟨⟨old, he⟩, hi, hne⟩ := st; ⟨⟨old, k e (by simp) _ he⟩, hi.at fun o q => k it (by simp) o q, hne⟩
  item := by
    intro X hP hw hK hc i pins s σ H E I hf st hg
    subst hP hw hK
    obtain ⟨⟨old, he⟩, hit, hne⟩ := st
    obtain ⟨xs, x, hq, hx⟩ := hg
    obtain ⟨its, rv, p, hz⟩ := I.tuple hq
    obtain ⟨u, hu, ru⟩ := rv.get hx
    have hel : e < s.heap.objs.size := Heap.lt_size he
    have hil : it < s.heap.objs.size := by obtain ⟨_, q, _⟩ := hit; exact Heap.lt_size q
    have hlt : i < its.toArray.size := by
      have := (List.getElem?_eq_some_iff.mp hu).1
      simpa using this
    refine PySem.wpAny_pyNext_enum_itemD (Draws.tuple (A := X.A.in1) (by show X.A.handled = none; exact I.ok.hd hc) it a hea its.toArray) he ⟨hit, p⟩ hlt hne (by simp [hne, Ne.symm hea2]) fun x' h' tk hx' ho hs' hT hsz hk => ?_
    have hux : x' = u := by
      have h1 : its[i]? = some x' := by simpa using hx'
      rw [hu] at h1
      cases h1
      rfl
    subst hux
    refine ⟨_, rfl, wpAny_letOwnedTupleGo_enum (s := { s with heap := h', toks := tk + 1 }) ho fun h'' he' sb => ?_⟩
    have hT2 : h''.get? s.heap.objs.size = some { cls := .type "tuple", data := .seq #[.int i tk, x'] } := (sb.2 _ (Nat.ne_of_gt hel)).trans hT
    have new : ObjOk X.prog X.w (upd H s.heap.objs.size (.tup [.int (i : Nat), x])) h'' s.heap.objs.size (.tup [.int (i : Nat), x]) :=
      ⟨by show 2 ≤ sizeLine; decide, [.int i tk, x'], .cons ⟨_, rfl⟩ (.cons ru .nil), ⟨_, hT2, rfl, _, rfl⟩⟩
    have I1 : Inv X pins σ (upd H s.heap.objs.size (.tup [.int (i : Nat), x])) { s with heap := h'', toks := tk + 1 } :=
      I.turnedNew (ch := [e, it]) (fun b ob hb q => (sb.2 b (fun z => hb (by simp [z]))).trans (hk b ob (fun z => hb (by simp [z])) (fun z => hb (by simp [z])) q)) hf (Nat.le_refl _) new
    refine ⟨.ref s.heap.objs.size, _, I1, rfl, ⟨_, x, rfl, I.hok.fresh (Nat.le_refl _), rfl, fun ys hy => by rw [I.tuple_inj hy hq]; exact hx⟩, ⟨⟨x', ?_⟩, hs'.1.at fun o q => (sb.2 it (Ne.symm hne)).trans q, hne⟩, fun b hb => ?_⟩
    · have e1 : ((i + 1 : Nat) : Int) = (i : Int) + 1 := by omega
      rw [e1]; exact he'
    · have hb' : b < s.heap.objs.size := by
        have e' : b = e ∨ b = it := by simpa using hb
        rcases e' with z | z
        · rw [z]; exact hel
        · rw [z]; exact hil
      rw [upd_ne (Nat.ne_of_lt hb')]
      exact (hf b hb).1
  done := by
    intro X hP hw hK hc i pins s σ H E I hf st hg
    subst hP hw hK
    obtain ⟨⟨old, he⟩, hit, hne⟩ := st
    obtain ⟨xs, hq, hx⟩ := hg
    obtain ⟨its, rv, p, hz⟩ := I.tuple hq
    obtain ⟨f0, f1, f2, f3, f4, f5⟩ := hf it (by simp)
    have hl := rv.length
    have e2 : i = its.toArray.size := by rw [List.size_toArray, ← hl]; exact hx.symm
    refine PySem.wpAny_pyNext_enum_endD (Draws.tuple (A := X.A.in1) (by show X.A.handled = none; exact I.ok.hd hc) it a hea its.toArray) he ⟨by rw [← e2]; exact hit, p⟩ fun h' eb => ⟨rfl, I.turned (t' := s.toks) (fun b o hb q => eb b o hb q) f0 f1 f3 f4 f5⟩
  self := fun A i s Q E st h => let ⟨⟨_, he⟩, _⟩ := st; wpAny_pyIter_enum he h
/-- enumerate(a tuple) -/
theorem enum_newT (l : Addr) (its : Array Value) : Meets (Builtin.«enumerate.__new__» ⟨[.type "enumerate", .ref l], []⟩) (fun _ R s => s.heap.IsTuple l its ∧
      R (.ok (.ret (.ref (s.heap.objs.size + 1)))) { s with heap := (s.heap.push { cls := .type "tuple_iterator", data := .fields #[.ref l, .int 0 0] }).push { cls := .type "enumerate", data := .fields #[.none, .bool false, .ref s.heap.objs.size, rawInt 0, .none, .none] } }) :=
  .of_wp fun prog w A R s h => by
    obtain ⟨hp, g, d, tk, os⟩ := s; obtain ⟨h1, h⟩ := h
    have hsub := sub_enumerate
    have hz : (hp.push { cls := .type "tuple_iterator", data := .fields #[.ref l, .int 0 0] }).objs.size = hp.objs.size + 1 := Heap.size_push ..
    have q1 : ∀ {A' : Around} {E : Value → Shared → Prop} {Q : Value → Shared → Prop}, Q (.ref hp.objs.size) ⟨hp.push { cls := .type "tuple_iterator", data := .fields #[.ref l, .int 0 0] }, g, d, tk, os⟩ → wpAny (model prog w) A' (pyIter (.ref l)) Q E ⟨hp, g, d, tk, os⟩ :=
      fun q => (begins_tuple l its).iter prog w _ _ ⟨hp, g, d, tk, os⟩ _ h1 q
    wp_walk using q1
    refine wpAny_stack_any fun st => wpAny_pure ?_
    split
    · rename_i c _ _ _ _ _
      cases hcc : (c == Value.type "enumerate")
      all_goals
        wp_walk using q1
        refine ⟨_, rfl, ?_⟩
        first | (rw [hz]; exact h) | exact h
    · wp_walk using q1
      refine ⟨_, rfl, ?_⟩
      first | (rw [hz]; exact h) | exact h
theorem enum_tup {prog : Program} {w : World} {A : Around} {E : Value → Shared → Prop} {s : Shared} {l : Addr} {its : Array Value} {Q : Value → Shared → Prop} (h1 : s.heap.IsTuple l its)
    (h : ∀ h', IsEnum h' (s.heap.objs.size + 1) s.heap.objs.size 0 .none → h'.IsTupleIter s.heap.objs.size l 0 → (∀ b o, s.heap.get? b = some o → h'.get? b = some o) → Q (.ref (s.heap.objs.size + 1)) { s with heap := h' }) :
    wpAny (model prog w) A (call (.type "enumerate") [.ref l]) Q E s := by
  refine callType_new F.called_enumerate (by decide) (F.typeCall_enumerate_1 _) (F.newCall_enumerate_1 _) (fun obj => F.args_object_init_2 obj _) F.entry_enumerate_new (enum_newT l its) ⟨h1, ?_⟩
  have hz : (s.heap.push { cls := .type "tuple_iterator", data := .fields #[.ref l, .int 0 0] }).objs.size = s.heap.objs.size + 1 := Heap.size_push ..
  have he : IsEnum ((s.heap.push { cls := .type "tuple_iterator", data := .fields #[.ref l, .int 0 0] }).push { cls := .type "enumerate", data := .fields #[.none, .bool false, .ref s.heap.objs.size, rawInt 0, .none, .none] }) (s.heap.objs.size + 1) s.heap.objs.size 0 .none := by
    have q := Heap.get?_push_size (s.heap.push { cls := .type "tuple_iterator", data := .fields #[.ref l, .int 0 0] }) (o := { cls := .type "enumerate", data := .fields #[.none, .bool false, .ref s.heap.objs.size, rawInt 0, .none, .none] }) rfl
    rw [hz] at q
    exact q
  exact ⟨⟨_, he, rfl⟩, h _ he ⟨_, Heap.get?_push_of_some _ (Heap.get?_push_size _ rfl), rfl, rfl⟩ fun b o x => Heap.get?_push_of_some _ (Heap.get?_push_of_some _ x)⟩
def iEnumT (K : PySem.W.Frag) (ta : TA) : TI := fun σ H R => ta σ H fun vs H1 => ∃ a xs, vs = [.ref a] ∧ SqT K H1 a xs ∧ R (IteT K a) H1
theorem pi_enumT {X : Cx} {e : Expr} {ta : TA} {p pos tpos : Pos} {elts : List Expr} {kk : Nat} (hg : Gl X "enumerate") (hm : X.mg "enumerate" = none) (ha : PA X [e] ta) (hs : starEach [e] X.env = [(false, eval e X.env)] := by rfl) :
    PI X (.Tuple elts kk tpos) (.Call (.Name "enumerate" p) [e] [] pos) (iEnumT X.K ta) := by
  refine ⟨fun pins s σ H R I h => ?_⟩
  refine Call_ (ld_blt I hg hm boot_enumerate (PyProof.Rows.callWith_type1 (thn (ha.run pos pins s σ H _ I h) fun us s1 ⟨vs, H1, I1, r1, q1⟩ => ?_) hs rfl))
  obtain ⟨a, xs, ex, hq, q⟩ := q1
  subst ex
  cases r1 with
  | cons r rr =>
    cases rr
    cases r
    obtain ⟨its, rv, p', hz⟩ := I1.tuple hq
    have hal : a < s1.heap.objs.size := by
      obtain ⟨o, ho, _⟩ := p'
      exact Heap.lt_size ho
    refine enum_tup p' fun h' he hit hk => wpAny_pyIter_enum he ?_
    have I2 : Inv X pins σ H1 { s1 with heap := h' } := I1.kept (t' := s1.toks) hk
    refine ⟨s1.heap.objs.size + 1, [s1.heap.objs.size + 1, s1.heap.objs.size], _, _, H1, rfl, I2, turn_enumT a (s1.heap.objs.size + 1) s1.heap.objs.size (Nat.ne_of_lt hal) (Nat.ne_of_lt (Nat.lt_succ_of_lt hal)), ⟨⟨.none, he⟩, hit, Nat.succ_ne_self _⟩, fun b hb => ?_, q⟩
    have hle : s1.heap.objs.size ≤ b := by
      have e' : b = s1.heap.objs.size + 1 ∨ b = s1.heap.objs.size := by simpa using hb
      rcases e' with z | z
      · rw [z]; exact Nat.le_add_right _ _
      · rw [z]; exact Nat.le_refl _
    exact I1.fpOk hle (I1.hok.fresh hle)
theorem walk_enumT {K : PySem.W.Frag} {a : Addr} {xs : List V} : Walk (IteT K a) xs.length (fun H => SqT K H a xs) (YPair (fun i => some (.int (i : Nat))) (fun i => xs[i]?)) := by
  refine ⟨fun i H hi g => ⟨xs, xs[i], g, by simp [hi]⟩, fun H g => ⟨xs, g, rfl⟩, fun i H x H' hi g y => ?_⟩
  obtain ⟨T, x', e1, e2, e3, e4⟩ := y
  exact ⟨T, _, _, e1, e2, e3, rfl, e4 xs g⟩
end PL


set_option Elab.async false
set_option linter.all false
set_option maxRecDepth 100000
/-! PLi: patterns; what a loop goes through, by values. -/
namespace PL
open PySem PySem.Spec PyProof.Rows L2
/-- the static context of a def -/
structure Sx (X : Cx) (C : Addr → Option (List V)) (N : List Str) (sc : Scope) : Prop where
  ctx : Ctx X C
  hN : X.N = N
  sc : X.env.scope = sc
  fnx : ∀ x, Loc X.env.scope x → X.fn x = true ∨ X.env.scope.names.lookup x = some .local
/-- x is v, or x is a new pair -/
def Yd (p : PrW) (K : PySem.W.Frag) (H : Hp) (d : D) (x : V) : Prop := Rp p K H d x ∨ ∃ a b t u v, d = .tuple [a, b] ∧ x = .ref t ∧ H t = some (.tup [u, v]) ∧ Rp p K H a u ∧ Rp p K H b v
def OwSub (ρ ρ' : En) (σ σ' : L2.St) : Prop := ∀ i d, ρ'.own i = some d → ρ.own i = some d ∧ σ'[i]? = σ[i]?
theorem OwSub.refl (ρ : En) (σ : L2.St) : OwSub ρ ρ σ σ := fun _ _ h => ⟨h, rfl⟩
theorem OwSub.trans {ρ ρ1 ρ2 : En} {σ σ1 σ2 : L2.St} (a : OwSub ρ ρ1 σ σ1) (b : OwSub ρ1 ρ2 σ1 σ2) : OwSub ρ ρ2 σ σ2 := fun i d h =>
  let ⟨h1, e1⟩ := b i d h
  let ⟨h2, e2⟩ := a i d h1
  ⟨h2, e1.trans e2⟩
theorem OwSub.set {ρ : En} {σ : L2.St} {i : Nat} {d : D} {o : Option V} : OwSub ρ (ρ.set i (.fz d)) σ (σ.set i o) := fun j e h => by
  by_cases hj : i = j
  · subst hj
    unfold En.own at h
    by_cases hi : i < ρ.length
    · rw [List.getElem?_set_self hi] at h
      cases h
    · rw [List.getElem?_eq_none (by simpa using hi)] at h
      cases h
  · unfold En.own at h ⊢
    rw [List.getElem?_set_ne hj] at h
    exact ⟨h, List.getElem?_set_ne hj⟩
/-- the slots of a pattern -/
def Pat.vars : Pat → List Nat
  | .v i => [i]
  | .nil => []
  | .cons p ps => p.vars ++ ps.vars
/-- apart from the pattern's slots the frame stays -/
def Agr (P : Pat) (σ σ' : L2.St) : Prop := σ'.length = σ.length ∧ ∀ j, j ∉ P.vars → σ'[j]? = σ[j]?
/-- what a target takes -/
def tP (p : PrW) (K : PySem.W.Frag) (P : Pat) : TG := fun v σ H Q => ∃ ρ d ρ', EnvOk p K H ρ σ ∧ Rp p K H d v ∧ bindP P d ρ = some ρ' ∧ ∀ σ', EnvOk p K H ρ' σ' → OwSub ρ ρ' σ σ' → Agr P σ σ' → Q σ' H
def tY (p : PrW) (K : PySem.W.Frag) (P : Pat) : TG := fun v σ H Q => ∃ ρ d ρ', EnvOk p K H ρ σ ∧ Yd p K H d v ∧ bindP P d ρ = some ρ' ∧ ∀ σ', EnvOk p K H ρ' σ' → OwSub ρ ρ' σ σ' → Agr P σ σ' → Q σ' H
def tZ (p : PrW) (K : PySem.W.Frag) (y : Bool) (P : Pat) : TG := fun v σ H Q => ∃ ρ d ρ', EnvOk p K H ρ σ ∧ (Rp p K H d v ∨ (y = true ∧ Yd p K H d v)) ∧ bindP P d ρ = some ρ' ∧ ∀ σ', EnvOk p K H ρ' σ' → OwSub ρ ρ' σ σ' → Agr P σ σ' → Q σ' H
def tPs (p : PrW) (K : PySem.W.Frag) (P : Pat) : TGs := fun vs σ H Q => ∃ ρ ds ρ', EnvOk p K H ρ σ ∧ RpA p K H ds vs ∧ bindP P (.tuple ds) ρ = some ρ' ∧ ∀ σ', EnvOk p K H ρ' σ' → OwSub ρ ρ' σ σ' → Agr P σ σ' → Q σ' H
section
variable {X : Cx} {C : Addr → Option (List V)}
theorem PGwk2 {tg : Expr} {t t' : TG} (h : PG X tg t) (w : ∀ v σ H Q, t' v σ H Q → t v σ H Q) : PG X tg t' := ⟨fun pins s σ H v u Q I r q => h.run pins s σ H v u Q I r (w v σ H Q q)⟩
theorem rg_name {N : List Str} {sc : Scope} (S : Sx X C N sc) {i : Nat} {x : Str} {pos : Pos} (hi : X.N[i]? = some x) (hx : Loc X.env.scope x) : PG X (.Name x pos) (tP (pX X C) X.K (.v i)) := by
  refine PGwk2 (pg_name S.ctx.nd hi hx (S.fnx x hx)) fun v σ H Q ⟨ρ, d, ρ', E, r, e, q⟩ => ?_
  simp only [bindP] at e
  cases e
  exact q _ (E.set r) OwSub.set ⟨by simp, fun j hj => List.getElem?_set_ne (fun z => hj (by simp [Pat.vars, z]))⟩
theorem unp_lst {d : D} {ds : List D} (h : unpD d = some ds) : d = .tuple ds ∨ d = .list ds := by
  cases d <;> simp only [unpD] at h <;> first | (cases h; done) | (cases h; first | exact .inl rfl | exact .inr rfl)
theorem bindP_unp {P : Pat} (hP : ∀ i, P ≠ .v i) {d : D} {ds : List D} {ρ : En} (h : unpD d = some ds) : bindP P d ρ = bindP P (.tuple ds) ρ := by
  cases P with
  | v i => exact absurd rfl (hP i)
  | nil => simp only [bindP, h, show unpD (.tuple ds) = some ds from rfl]
  | cons p ps => simp only [bindP, h, show unpD (.tuple ds) = some ds from rfl]
/-- the pattern's length -/
def Pat.len : Pat → Nat
  | .cons _ ps => ps.len + 1
  | _ => 0
/-- a chain of targets -/
def Pat.isCh : Pat → Bool
  | .nil => true
  | .cons _ ps => ps.isCh
  | .v _ => false
theorem bindP_len : ∀ {P : Pat} {ds : List D} {ρ ρ' : En}, P.isCh = true → bindP P (.tuple ds) ρ = some ρ' → ds.length = P.len
  | .nil, ds, ρ, ρ', _, h => by
    simp only [bindP, unpD] at h
    cases ds with
    | nil => rfl
    | cons d r => cases h
  | .cons p ps, ds, ρ, ρ', hc, h => by
    simp only [bindP, unpD] at h
    cases ds with
    | nil => cases h
    | cons d r =>
      simp only at h
      obtain ⟨ρ1, e1, e2⟩ := Option.bind_eq_some_iff.mp h
      simp [Pat.len, bindP_len (P := ps) hc e2]
  | .v i, _, _, _, hc, _ => by cases hc
/-- a tuple of targets -/
theorem rg_tup {N : List Str} {sc : Scope} (S : Sx X C N sc) {es : List Expr} {k : Nat} {pos : Pos} {P : Pat} (hc : P.isCh = true) (h : PGs X es (tPs (pX X C) X.K P)) (hn : (assignEach es X.env).length = P.len) (hst : (assignEach es X.env).findIdx? (·.1) = none) :
    PG X (.Tuple es k pos) (tY (pX X C) X.K P) := by
  have hP : ∀ i, P ≠ .v i := fun i z => by subst z; cases hc
  refine ⟨fun pins s σ H v u Q I r ⟨ρ, d, ρ', E, y, e, q⟩ => ?_⟩
  have hu : ∃ ds, unpD d = some ds := by
    cases hd : unpD d with
    | some ds => exact ⟨ds, rfl⟩
    | none =>
      cases P with
      | v i => exact absurd rfl (hP i)
      | nil => simp [bindP, hd] at e
      | cons p ps => simp [bindP, hd] at e
  obtain ⟨ds, hu⟩ := hu
  rw [bindP_unp hP hu] at e
  have hl := bindP_len hc e
  rcases y with y | ⟨a, b, t, x1, x2, e1, e2, e3, r1, r2⟩
  · rcases unp_lst hu with z | z
    · subst z
      obtain ⟨a, xs, ev, h1, h2⟩ := rpTup.mp y
      exact (pg_tup S.ctx.calm h hn hst).run pins s σ H v u Q I r ⟨a, xs, ev, h1.sq S.ctx.cc, by rw [h2.len, hl], ρ, ds, ρ', E, h2, e, q⟩
    · subst z
      obtain ⟨a, xs, ev, h1, h2⟩ := rpLst.mp y
      exact (pg_lst S.ctx.calm h hn hst).run pins s σ H v u Q I r ⟨a, xs, ev, h1.sq, by rw [h2.len, hl], ρ, ds, ρ', E, h2, e, q⟩
  · subst e1
    simp only [unpD] at hu
    cases hu
    exact (pg_tup S.ctx.calm h hn hst).run pins s σ H v u Q I r ⟨t, [x1, x2], e2, .of e3, by rw [← hl]; rfl, ρ, _, ρ', E, .cons r1 (.cons r2 .nil), e, q⟩
theorem rg_yp {tg : Expr} {P : Pat} (h : PG X tg (tY (pX X C) X.K P)) : PG X tg (tP (pX X C) X.K P) := PGwk2 h fun v σ H Q ⟨ρ, d, ρ', E, y, e, q⟩ => ⟨ρ, d, ρ', E, .inl y, e, q⟩
theorem rgs_nil : PGs X [] (tPs (pX X C) X.K .nil) := ⟨fun pins s σ H vs us Q I r ⟨ρ, ds, ρ', E, y, e, q⟩ => by
  simp only [bindP, unpD] at e
  cases ds with
  | nil =>
    cases e
    simp only [RpA] at y
    exact (pgs_nil (X := X)).run pins s σ H vs us Q I r ⟨y, q _ E (OwSub.refl _ _) ⟨rfl, fun _ _ => rfl⟩⟩
  | cons d r => cases e⟩
theorem rgs_cons {e : Expr} {es : List Expr} {p ps : Pat} (h1 : PG X e (tP (pX X C) X.K p)) (h2 : PGs X es (tPs (pX X C) X.K ps)) (hs : (assignEach (e :: es) X.env).map (·.2) = assign e X.env :: (assignEach es X.env).map (·.2)) : PGs X (e :: es) (tPs (pX X C) X.K (.cons p ps)) := by
  refine ⟨fun pins s σ H vs us Q I r ⟨ρ, ds, ρ', E, y, e', q⟩ => ?_⟩
  refine (pgs_cons h1 h2 hs).run pins s σ H vs us Q I r ?_
  simp only [bindP, unpD] at e'
  cases ds with
  | nil => cases e'
  | cons d ds =>
    simp only at e'
    obtain ⟨ρ1, e1, e2⟩ := Option.bind_eq_some_iff.mp e'
    simp only [RpA] at y
    obtain ⟨v, vr, ev, r1, r2⟩ := y
    exact ⟨v, vr, ev, ρ, d, ρ1, E, r1, e1, fun σ1 E1 o1 a1 => ⟨ρ1, ds, ρ', E1, r2, e2, fun σ2 E2 o2 a2 => q _ E2 (o1.trans o2) ⟨a2.1.trans a1.1, fun j hj => (a2.2 j fun z => hj (List.mem_append_right _ z)).trans (a1.2 j fun z => hj (List.mem_append_left _ z))⟩⟩⟩

theorem rg_z {tg : Expr} {P : Pat} (h : PG X tg (tP (pX X C) X.K P)) : PG X tg (tZ (pX X C) X.K false P) := PGwk2 h fun v σ H Q ⟨ρ, d, ρ', E, y, e, q⟩ => ⟨ρ, d, ρ', E, y.elim id fun z => absurd z.1 Bool.false_ne_true, e, q⟩
theorem rg_zy {tg : Expr} {P : Pat} {b : Bool} (h : PG X tg (tY (pX X C) X.K P)) : PG X tg (tZ (pX X C) X.K b P) := PGwk2 h fun v σ H Q ⟨ρ, d, ρ', E, y, e, q⟩ => ⟨ρ, d, ρ', E, y.elim .inl fun z => z.2, e, q⟩
/-! ### iterations -/
structure Gives (p : PrW) (K : PySem.W.Frag) (J : It) (H0 : Hp) (ds : List D) (y : Bool) : Prop where
  sz : ds.length ≤ sizeLine
  walk : ∃ (G : Hp → Prop) (Y : Nat → Hp → V → Hp → Prop), Walk J ds.length G Y ∧ (∀ H, Kp H0 H → G H) ∧ ∀ i H x H' d, Kp H0 H → ds[i]? = some d → Y i H x H' → Same H H' ∧ (Rp p K H' d x ∨ (y = true ∧ Yd p K H' d x))
def tI (p : PrW) (K : PySem.W.Frag) (f : RE (List D)) (y : Bool) : TI := fun σ H R => ∃ ρ ds, EnvOk p K H ρ σ ∧ f ρ = some ds ∧ ∀ J H', Same H H' → Gives p K J H' ds y → R J H'
theorem map_get {α β : Type} {f : α → β} {l : List α} {i : Nat} {b : β} (h : (l.map f)[i]? = some b) : ∃ a, l[i]? = some a ∧ f a = b := by
  rw [List.getElem?_map] at h
  exact Option.map_eq_some_iff.mp h
theorem range_get {n i j : Nat} (h : (List.range n)[i]? = some j) : j = i := by
  obtain ⟨h1, h2⟩ := List.getElem?_eq_some_iff.mp h
  rw [List.getElem_range] at h2
  exact h2.symm
theorem Kp.sqL {K : PySem.W.Frag} {H H' : Hp} {a : Addr} {xs : List V} (k : Kp H H') (h : FzL K H a xs) : SqL K H' a xs := (k.fzL h).sq
theorem gv_list {p : PrW} {K : PySem.W.Frag} {H : Hp} {a : Addr} {xs : List V} {ds : List D} (z : xs.length ≤ sizeLine) (h : FzL K H a xs) (r : RpA p K H ds xs) : Gives p K (Itl K a) H ds false := by
  refine ⟨by rw [← r.len]; exact z, _, _, by rw [← r.len]; exact walk_list, fun H' k => k.sqL h, fun i H1 x H2 d k e y => ?_⟩
  obtain ⟨e1, e2⟩ := y
  subst e1
  obtain ⟨v, e3, r3⟩ := r.get e
  rw [e2] at e3
  cases e3
  exact ⟨Same.refl _, .inl (Rp.keep k _ _ r3)⟩
theorem gv_tup {p : PrW} {K : PySem.W.Frag} (cc : COk p K) {H : Hp} {a : Addr} {b : Bool} {xs : List V} {ds : List D} (z : xs.length ≤ sizeLine) (h : TpT p H a b xs) (r : RpA p K H ds xs) : Gives p K (Itt K a) H ds false := by
  refine ⟨by rw [← r.len]; exact z, _, _, by rw [← r.len]; exact walk_tup, fun H' k => (k.sqT h).sq cc, fun i H1 x H2 d k e y => ?_⟩
  obtain ⟨e1, e2⟩ := y
  subst e1
  obtain ⟨v, e3, r3⟩ := r.get e
  rw [e2] at e3
  cases e3
  exact ⟨Same.refl _, .inl (Rp.keep k _ _ r3)⟩
theorem rpD_get {p : PrW} {K : PySem.W.Frag} {H : Hp} : ∀ {kvs : List (D × D)} {kk : List (Key × V)} {i : Nat} {k d : D}, RpD p K H kvs kk → kvs[i]? = some (k, d) → ∃ q v, kk[i]? = some (q, v) ∧ k = keyD q ∧ Rp p K H d v
  | [], _, _, _, _, _, e => by simp at e
  | (k0, d0) :: r, _, 0, k, d, h, e => by
    simp only [RpD] at h
    obtain ⟨q, v, l', e1, e2, h1, h2⟩ := h
    subst e1
    simp at e
    obtain ⟨e3, e4⟩ := e
    subst e3 e4
    exact ⟨q, v, rfl, e2, h1⟩
  | (k0, d0) :: r, _, i + 1, k, d, h, e => by
    simp only [RpD] at h
    obtain ⟨q, v, l', e1, e2, h1, h2⟩ := h
    subst e1
    obtain ⟨q', v', e3, e4⟩ := rpD_get (i := i) h2 (by simpa using e)
    exact ⟨q', v', by simpa using e3, e4⟩
theorem rpT_get {p : PrW} {K : PySem.W.Frag} {H : Hp} : ∀ {kvs : List (D × D)} {kk : List (List Key × V)} {i : Nat} {k d : D}, RpT p K H kvs kk → kvs[i]? = some (k, d) → ∃ q v, kk[i]? = some (q, v) ∧ k = .tuple (q.map keyD) ∧ Rp p K H d v
  | [], _, _, _, _, _, e => by simp at e
  | (k0, d0) :: r, _, 0, k, d, h, e => by
    simp only [RpT] at h
    obtain ⟨q, v, l', e1, e2, h1, h2⟩ := h
    subst e1
    simp at e
    obtain ⟨e3, e4⟩ := e
    subst e3 e4
    exact ⟨q, v, rfl, e2, h1⟩
  | (k0, d0) :: r, _, i + 1, k, d, h, e => by
    simp only [RpT] at h
    obtain ⟨q, v, l', e1, e2, h1, h2⟩ := h
    subst e1
    obtain ⟨q', v', e3, e4⟩ := rpT_get (i := i) h2 (by simpa using e)
    exact ⟨q', v', by simpa using e3, e4⟩
theorem rpD_len {p : PrW} {K : PySem.W.Frag} {H : Hp} : ∀ {kvs : List (D × D)} {kk : List (Key × V)}, RpD p K H kvs kk → kk.length = kvs.length
  | [], _, h => by simp only [RpD] at h; subst h; rfl
  | (k, d) :: r, _, h => by
    simp only [RpD] at h
    obtain ⟨_, _, l', e, _, _, h3⟩ := h
    subst e
    simp [rpD_len h3]
theorem rpT_len {p : PrW} {K : PySem.W.Frag} {H : Hp} : ∀ {kvs : List (D × D)} {kk : List (List Key × V)}, RpT p K H kvs kk → kk.length = kvs.length
  | [], _, h => by simp only [RpT] at h; subst h; rfl
  | (k, d) :: r, _, h => by
    simp only [RpT] at h
    obtain ⟨_, _, l', e, _, _, h3⟩ := h
    subst e
    simp [rpT_len h3]
theorem rp_keyD {p : PrW} {K : PySem.W.Frag} {H : Hp} (q : Key) : Rp p K H (keyD q) (kV q) := by
  cases q with
  | inl i => exact rpInt.mpr rfl
  | inr x => exact rpStr.mpr rfl
theorem rpA_keyD {p : PrW} {K : PySem.W.Frag} {H : Hp} : ∀ q : List Key, RpA p K H (q.map keyD) (q.map kV)
  | [] => .nil
  | k :: r => .cons (rp_keyD k) (rpA_keyD r)
theorem rp_keyT {p : PrW} {K : PySem.W.Frag} {H : Hp} {q : List Key} {b : Addr} (h : H b = some (.tup (q.map kV))) : Rp p K H (.tuple (q.map keyD)) (.ref b) :=
  rpTup.mpr ⟨b, _, rfl, .inl ⟨flatK_keys q, h⟩, rpA_keyD q⟩
theorem gv_keysK {p : PrW} {K : PySem.W.Frag} {H : Hp} {a : Addr} {o : Obj} {kvs : List (D × D)} {kk : List (Key × V)} (z : kk.length ≤ sizeLine) (h : H a = some (.frz o (.dK kk))) (r : RpD p K H kvs kk) : Gives p K (Itk a o kk) H (kvs.map (·.1)) false := by
  refine ⟨by rw [List.length_map, ← rpD_len r]; exact z, _, _, by rw [List.length_map, ← rpD_len r]; exact walk_keys, fun H' k => k.2 _ _ _ h, fun i H1 x H2 d k e y => ?_⟩
  obtain ⟨e1, k1, v1, e2, e3⟩ := y
  subst e1
  obtain ⟨⟨k0, d0⟩, e4, e5⟩ := map_get e
  obtain ⟨q, v, e6, e7, _⟩ := rpD_get r e4
  rw [e2] at e6
  cases e6
  subst e5
  rw [e3, e7]
  exact ⟨Same.refl _, .inl (rp_keyD _)⟩
theorem gv_keysT {p : PrW} {K : PySem.W.Frag} {H : Hp} {a : Addr} {o : Obj} {kvs : List (D × D)} {kk : List (List Key × V)} (z : kk.length ≤ sizeLine) (h : H a = some (.frz o (.dT kk))) (r : RpT p K H kvs kk) : Gives p K (Itkt a o kk) H (kvs.map (·.1)) false := by
  refine ⟨by rw [List.length_map, ← rpT_len r]; exact z, _, _, by rw [List.length_map, ← rpT_len r]; exact walk_keysT, fun H' k => k.2 _ _ _ h, fun i H1 x H2 d k e y => ?_⟩
  obtain ⟨e1, k1, v1, b, e2, e3, e8⟩ := y
  subst e1
  obtain ⟨⟨k0, d0⟩, e4, e5⟩ := map_get e
  obtain ⟨q, v, e6, e7, _⟩ := rpT_get r e4
  rw [e2] at e6
  cases e6
  subst e5
  rw [e3, e7]
  exact ⟨Same.refl _, .inl (rp_keyT e8)⟩
theorem gv_vals {p : PrW} {K : PySem.W.Frag} {H : Hp} {a : Addr} {o : Obj} {kvs : List (D × D)} {kk : List (Key × V)} (z : kk.length ≤ sizeLine) (h : H a = some (.frz o (.dK kk))) (r : RpD p K H kvs kk) : Gives p K (Itd a o kk) H (kvs.map (·.2)) false := by
  refine ⟨by rw [List.length_map, ← rpD_len r]; exact z, _, _, by rw [List.length_map, ← rpD_len r]; exact walk_values, fun H' k => k.2 _ _ _ h, fun i H1 x H2 d k e y => ?_⟩
  obtain ⟨e1, k1, e2⟩ := y
  subst e1
  obtain ⟨⟨k0, d0⟩, e4, e5⟩ := map_get e
  obtain ⟨q, v, e6, e7, r1⟩ := rpD_get r e4
  rw [e2] at e6
  cases e6
  subst e5
  exact ⟨Same.refl _, .inl (Rp.keep k _ _ r1)⟩
theorem yd_new {p : PrW} {K : PySem.W.Frag} {H0 H H' : Hp} {T : Addr} {u v : V} {a b : D} (k : Kp H0 H) (hn : H T = none) (e : H' = upd H T (.tup [u, v])) (ra : Rp p K H0 a u) (rb : Rp p K H0 b v) : Same H H' ∧ Yd p K H' (.tuple [a, b]) (.ref T) := by
  subst e
  have s := same_new (o := .tup [u, v]) hn
  exact ⟨s, .inr ⟨a, b, T, u, v, rfl, rfl, upd_same, Rp.keep (k.trans s.kp) _ _ ra, Rp.keep (k.trans s.kp) _ _ rb⟩⟩
theorem gv_items {p : PrW} {K : PySem.W.Frag} {H : Hp} {a : Addr} {o : Obj} {kvs : List (D × D)} {kk : List (Key × V)} (z : kk.length ≤ sizeLine) (h : H a = some (.frz o (.dK kk))) (r : RpD p K H kvs kk) : Gives p K (Iti a o kk) H (kvs.map fun q => .tuple [q.1, q.2]) true := by
  refine ⟨by rw [List.length_map, ← rpD_len r]; exact z, _, _, by rw [List.length_map, ← rpD_len r]; exact walk_items, fun H' k => k.2 _ _ _ h, fun i H1 x H2 d k e y => ?_⟩
  obtain ⟨T, u, v, e1, e2, e3, e4, e5⟩ := y
  obtain ⟨⟨k0, d0⟩, e6, e7⟩ := map_get e
  obtain ⟨q, v', e8, e9, r1⟩ := rpD_get r e6
  have e4 : Option.map (fun kv : Key × V => kV kv.1) kk[i]? = some u := e4
  have e5 : Option.map Prod.snd kk[i]? = some v := e5
  rw [e8] at e4 e5
  cases e4
  cases e5
  subst e1 e7 e9
  obtain ⟨s, y⟩ := yd_new k e2 e3 (rp_keyD q) r1
  exact ⟨s, .inr ⟨rfl, y⟩⟩
theorem enum_get {ds : List D} {i : Nat} {d : D} (e : (enumD ds)[i]? = some d) : ∃ x, ds[i]? = some x ∧ d = .tuple [.int i, x] := by
  unfold enumD at e
  obtain ⟨⟨x, j⟩, e1, e2⟩ := map_get e
  rw [List.getElem?_zipIdx, Option.map_eq_some_iff] at e1
  obtain ⟨x', e3, e4⟩ := e1
  cases e4
  exact ⟨x, e3, by rw [← e2, Nat.zero_add]⟩
theorem gv_enumL {p : PrW} {K : PySem.W.Frag} {H : Hp} {a : Addr} {xs : List V} {ds : List D} (z : xs.length ≤ sizeLine) (h : FzL K H a xs) (r : RpA p K H ds xs) : Gives p K (Ite K a) H (enumD ds) true := by
  refine ⟨by rw [show (enumD ds).length = xs.length by simp [enumD, r.len]]; exact z, _, _, by rw [show (enumD ds).length = xs.length by simp [enumD, r.len]]; exact walk_enum, fun H' k => k.sqL h, fun i H1 x H2 d k e y => ?_⟩
  obtain ⟨T, u, v, e1, e2, e3, e4, e5⟩ := y
  obtain ⟨x', e6, e7⟩ := enum_get e
  obtain ⟨v', e8, r1⟩ := r.get e6
  have e9 : some v' = some v := e8.symm.trans e5
  cases e4
  cases e9
  subst e1 e7
  obtain ⟨s, y⟩ := yd_new k e2 e3 (rpInt.mpr rfl) r1
  exact ⟨s, .inr ⟨rfl, y⟩⟩
theorem gv_enumT {p : PrW} {K : PySem.W.Frag} (cc : COk p K) {H : Hp} {a : Addr} {b : Bool} {xs : List V} {ds : List D} (z : xs.length ≤ sizeLine) (h : TpT p H a b xs) (r : RpA p K H ds xs) : Gives p K (IteT K a) H (enumD ds) true := by
  refine ⟨by rw [show (enumD ds).length = xs.length by simp [enumD, r.len]]; exact z, _, _, by rw [show (enumD ds).length = xs.length by simp [enumD, r.len]]; exact walk_enumT, fun H' k => (k.sqT h).sq cc, fun i H1 x H2 d k e y => ?_⟩
  obtain ⟨T, u, v, e1, e2, e3, e4, e5⟩ := y
  obtain ⟨x', e6, e7⟩ := enum_get e
  obtain ⟨v', e8, r1⟩ := r.get e6
  have e9 : some v' = some v := e8.symm.trans e5
  cases e4
  cases e9
  subst e1 e7
  obtain ⟨s, y⟩ := yd_new k e2 e3 (rpInt.mpr rfl) r1
  exact ⟨s, .inr ⟨rfl, y⟩⟩
theorem gv_rng {p : PrW} {K : PySem.W.Frag} {H : Hp} {lo : Int} {n : Nat} (z : n ≤ sizeLine) : Gives p K (Itr lo n) H ((List.range n).map fun i => .int (lo + (i : Nat))) false := by
  refine ⟨by rw [List.length_map, List.length_range]; exact z, _, _, by rw [List.length_map, List.length_range]; exact walk_range, fun _ _ => trivial, fun i H1 x H2 d k e y => ?_⟩
  obtain ⟨e1, e2⟩ := y
  obtain ⟨j, e3, e4⟩ := map_get e
  have e5 := range_get e3
  subst e1 e2 e4 e5
  exact ⟨Same.refl _, .inl (rpInt.mpr rfl)⟩
theorem gv_rngC {p : PrW} {K : PySem.W.Frag} {H : Hp} {lo c : Int} {n : Nat} (z : n ≤ sizeLine) : Gives p K (Itc lo c n) H ((List.range n).map fun i => .int (lo + (i : Nat) * c)) false := by
  refine ⟨by rw [List.length_map, List.length_range]; exact z, _, _, by rw [List.length_map, List.length_range]; exact walk_rangeC, fun _ _ => trivial, fun i H1 x H2 d k e y => ?_⟩
  obtain ⟨e1, e2⟩ := y
  obtain ⟨j, e3, e4⟩ := map_get e
  have e5 := range_get e3
  subst e1 e2 e4 e5
  exact ⟨Same.refl _, .inl (rpInt.mpr rfl)⟩
end
end PL


set_option Elab.async false
set_option linter.all false
set_option maxRecDepth 100000
/-! PLj: all calls of built-in functions; isinstance. -/
namespace PL
open PySem PySem.Spec PyProof.Rows L2
section
variable {X : Cx} {C : Addr → Option (List V)} {T : List D}
theorem allInts_keys {p : PrW} {K : PySem.W.Frag} {H : Hp} : ∀ {kvs : List (D × D)} {kk : List (Key × V)} {ks : List Int}, RpD p K H kvs kk → allInts (kvs.map (·.1)) = some ks → kk.map (·.1) = ks.map Sum.inl
  | [], _, _, h, e => by
    simp only [RpD] at h
    simp only [List.map_nil, allInts] at e
    cases e
    subst h
    rfl
  | (k, d) :: r, _, ks, h, e => by
    simp only [RpD] at h
    obtain ⟨q, v, l', e1, e2, _, h2⟩ := h
    subst e1 e2
    cases q with
    | inr x => simp [keyD, allInts] at e
    | inl i =>
      simp only [List.map_cons, keyD, allInts, Option.map_eq_some_iff] at e
      obtain ⟨ms, e3, e4⟩ := e
      subst e4
      rw [List.map_cons, List.map_cons, allInts_keys h2 e3]
theorem rpa_of_ints {p : PrW} {K : PySem.W.Frag} {H : Hp} : ∀ l : List Int, RpA p K H (l.map PyData.int) (l.map V.int)
  | [] => .nil
  | a :: r => .cons (rpInt.mpr rfl) (rpa_of_ints r)
theorem rep_list (c : Ctx X C) {pins : List (Addr × Obj)} {s : Shared} {σ : L2.St} {H : Hp} {xs : List V} {us : List Value} {Q : VK} {ds : List D} (I : Inv X pins σ H s) (r : Vals xs us) (p : Addr) (ys : List V) (ex : xs = [.ref p]) (h1 : SqL X.K H p ys ∨ SqT X.K H p ys) (h2 : RpA (pX X C) X.K H ds ys) (g : Give (pX X C) X.K H (.list ds) Q) :
    wpAny (model X.prog X.w) X.A (call (.type "list") us) (EP X pins σ Q) X.xe s := by
  subst ex
  refine thn (call_list_of pins s σ H _ us (fun v H' => ∃ p, v = .ref p ∧ H p = none ∧ H' = upd H p (.lst ys)) I r ⟨p, ys, rfl, h1, fun l hl => ⟨l, rfl, hl, rfl⟩⟩) fun _ _ z => sealL (g.lst h2) z
theorem rpa_ints {p : PrW} {K : PySem.W.Frag} {H : Hp} : ∀ {ds : List D} {ns : List Int} {ys : List V}, allInts ds = some ns → RpA p K H ds ys → ys = ns.map V.int
  | [], ns, ys, e, h => by
    simp only [allInts, Option.some.injEq] at e
    subst e
    have h : ys = [] := by simpa only [RpA] using h
    rw [h]
    rfl
  | d :: r, ns, ys, e, h => by
    simp only [RpA] at h
    obtain ⟨v, l', e0, h1, h2⟩ := h
    cases d <;> simp only [allInts] at e <;> try (cases e; done)
    obtain ⟨l, e1, e2⟩ := Option.map_eq_some_iff.mp e
    subst e2
    rw [e0, rpa_ints e1 h2, rpInt.mp h1]
    rfl
theorem ints_read {h : Heap} : ∀ {ns : List Int} {ys : List V} {us : List Value}, ys = ns.map V.int → Vals ys us → ReadsAll h us.toArray.toList (ns.map PyData.int) []
  | [], ys, us, e, r => by
    subst e
    cases r
    exact .nil
  | n :: m, ys, us, e, r => by
    subst e
    cases r with
    | cons r1 r2 =>
      obtain ⟨t, rfl⟩ := r1
      exact ReadsAll.cons (as := []) (bs := []) (.int n t) (ints_read rfl r2)
theorem ints_alike (ns : List Int) : PySem.W.AlikeAll (ns.map PyData.int) := by
  refine ⟨fun x hx y hy => ?_, fun x hx => ?_⟩
  · obtain ⟨a, _, rfl⟩ := List.mem_map.mp hx
    obtain ⟨b, _, rfl⟩ := List.mem_map.mp hy
    rfl
  · obtain ⟨a, _, rfl⟩ := List.mem_map.mp hx
    exact fun e => by cases e
theorem ints_depth : ∀ ns : List Int, PyData.depthAll (ns.map PyData.int) = 0
  | [] => by simp [PyData.depthAll]
  | n :: m => by
    rw [List.map_cons, PyData.depthAll, ints_depth m]
    simp [PyData.depth]
theorem bi2 (c : Ctx X C) : ∀ f : Bi, CallR X (biVal f) (rDs (pX X C) X.K (biD T f)) := by
  intro f pins s σ H xs us Q I rv ⟨ds, r, hd, hf, g⟩
  have hu := c.hu
  unfold biD at hf
  split at hf
  · rename_i l
    cases hf
    obtain ⟨v, ex, h⟩ := hd.one
    obtain ⟨a, ys, ev, h1, h2⟩ := rpLst.mp h
    subst ex ev
    exact call_len_seq pins s σ H _ us Q I rv ⟨a, ys, rfl, .inl h1.sq, by rw [h2.len]; exact g.int⟩
  · rename_i l
    cases hf
    obtain ⟨v, ex, h⟩ := hd.one
    obtain ⟨a, ys, ev, h1, h2⟩ := rpTup.mp h
    subst ex ev
    exact call_len_seq pins s σ H _ us Q I rv ⟨a, ys, rfl, .inr (h1.sq c.cc), by rw [h2.len]; exact g.int⟩
  · rename_i l
    cases hf
    obtain ⟨v, ex, h⟩ := hd.one
    subst ex
    obtain ⟨u, eu, rx⟩ := vals1 rv
    subst eu
    exact len_dict pins s σ H l v u Q I rx h g.int
  · rename_i a
    cases hf
    obtain ⟨v, ex, h⟩ := hd.one
    rw [rpInt] at h
    subst ex h
    exact call_abs pins s σ H _ us Q I rv ⟨a, rfl, g.int⟩
  · rename_i a
    cases hf
    obtain ⟨v, ex, h⟩ := hd.one
    rw [rpInt] at h
    subst ex h
    exact call_int1 pins s σ H _ us Q I rv (.inl ⟨a, rfl, g.int⟩)
  · rename_i b
    cases hf
    obtain ⟨v, ex, h⟩ := hd.one
    rw [rpBool] at h
    subst ex h
    exact call_int1 pins s σ H _ us Q I rv (.inr ⟨b, rfl, g.int⟩)
  · rename_i a b
    cases hf
    obtain ⟨v, u, ex, h, h'⟩ := hd.two
    rw [rpInt] at h h'
    subst ex h h'
    exact cr_gcd pins s σ H _ us Q I rv ⟨a, b, rfl, g.int⟩
  · rename_i a b
    split at hf
    · rename_i hz
      cases hf
      obtain ⟨v, u, ex, h, h'⟩ := hd.two
      rw [rpInt] at h h'
      subst ex h h'
      obtain ⟨t, t2, e⟩ := Vals.int2 rv
      subst e
      exact PySem.W.mc_lcm hz.1 hz.2 fun _ => ⟨.int _, H, I.tok _, ⟨_, rfl⟩, g.int⟩
    · cases hf
  · rename_i a b
    split at hf
    · rename_i hz
      cases hf
      obtain ⟨v, u, ex, h, h'⟩ := hd.two
      rw [rpInt] at h h'
      subst ex h h'
      obtain ⟨t, t2, e⟩ := Vals.int2 rv
      subst e
      exact PySem.W.mc_comb hz.1 hz.2.1 (by omega) (.inr hz.2.2) fun _ => ⟨.int _, H, I.tok _, ⟨_, rfl⟩, g.int⟩
    · cases hf
  · rename_i l
    obtain ⟨ns, e1, e2⟩ := Option.map_eq_some_iff.mp hf
    subst e2
    obtain ⟨v, ex, h⟩ := hd.one
    obtain ⟨a, ys, ev, h1, h2⟩ := rpLst.mp h
    rw [h2.ints e1] at h1
    subst ex ev
    exact cr_sum c.calm pins s σ H _ us Q I rv ⟨a, ns, rfl, h1.sq, g.int⟩
  · rename_i l
    obtain ⟨ns, e1, e2⟩ := Option.map_eq_some_iff.mp hf
    subst e2
    obtain ⟨v, ex, h⟩ := hd.one
    obtain ⟨a, ys, ev, h1, h2⟩ := rpLst.mp h
    rw [h2.bools e1] at h1
    subst ex ev
    exact cr_all c.calm pins s σ H _ us Q I rv ⟨a, ns, rfl, h1.sq, g.bool⟩
  · rename_i l
    obtain ⟨ns, e1, e2⟩ := Option.map_eq_some_iff.mp hf
    subst e2
    obtain ⟨v, ex, h⟩ := hd.one
    obtain ⟨a, ys, ev, h1, h2⟩ := rpLst.mp h
    rw [h2.bools e1] at h1
    subst ex ev
    exact cr_any c.calm pins s σ H _ us Q I rv ⟨a, ns, rfl, h1.sq, g.bool⟩
  · rename_i l
    obtain ⟨v, ex, h⟩ := hd.one
    subst ex
    obtain ⟨u, eu, rx⟩ := vals1 rv
    subst eu
    exact call_sortD c pins s σ H l r v u Q I rx h hf g
  · rename_i kvs
    obtain ⟨ks, e1, e2⟩ := Option.bind_eq_some_iff.mp hf
    split at e2
    · rename_i hz
      cases e2
      obtain ⟨v, ex, h⟩ := hd.one
      subst ex
      simp only [Rp] at h
      obtain ⟨a, ev, h⟩ := h
      subst ev
      have hk : ∃ o kk, H a = some (.frz o (.dK kk)) ∧ RpD (pX X C) X.K H kvs kk := by
        rcases h with ⟨o, kk, h1, h2⟩ | ⟨o, kt, h0, h1, h2⟩ | ⟨o, bs, h0, h1, h2⟩
        · exact ⟨o, kk, h1, h2⟩
        · cases kvs with
          | nil => simp only [RpT] at h2; exact absurd h2 h0
          | cons q l =>
            obtain ⟨k, d⟩ := q
            simp only [RpT] at h2
            obtain ⟨q', _, _, _, e3, _⟩ := h2
            subst e3
            simp [allInts] at e1
        · cases bs with
          | nil => exact absurd rfl h0
          | cons b l =>
            rw [h2, List.map_cons] at e1
            simp [allInts] at e1
      obtain ⟨o, kk, h1, h2⟩ := hk
      refine thn (call_sortedDI c.calm pins s σ H _ us (fun v H' => ∃ p, v = .ref p ∧ H p = none ∧ H' = upd H p (.lst ((sortI ks).map V.int))) I rv ⟨a, kk, ks, rfl, .inr ⟨o, h1⟩, allInts_keys h2 e1, hz, fun ys p hp ho hn => ?_⟩) fun _ _ z => sealL (g.lst (rpa_of_ints _)) z
      have e3 : ys = sortI ks := by
        refine PySem.W.ksm_same (hp.trans (List.mergeSort_perm _ _).symm) ho ?_
        refine List.Pairwise.imp ?_ (List.pairwise_mergeSort (le := fun a b : Int => decide (a ≤ b)) ?_ ?_ ks)
        · intro a b h
          exact of_decide_eq_true h
        · intro a b c h1 h2
          simp only [decide_eq_true_eq] at h1 h2 ⊢
          omega
        · intro a b
          simp only [Bool.or_eq_true, decide_eq_true_eq]
          omega
      subst e3
      exact ⟨p, rfl, hn, rfl⟩
    · cases e2
  · rename_i l
    cases hf
    obtain ⟨v, ex, h⟩ := hd.one
    obtain ⟨a, ys, ev, h1, h2⟩ := rpLst.mp h
    subst ex ev
    exact call_tupleK (flatK l) pins s σ H _ us Q I rv ⟨a, ys, rfl, h1.sq, g.tup h2⟩
  · rename_i l
    cases hf
    obtain ⟨v, ex, h⟩ := hd.one
    obtain ⟨a, ys, ev, h1, h2⟩ := rpLst.mp h
    subst ev
    exact rep_list c I rv a ys ex (.inl h1.sq) h2 g
  · rename_i l
    cases hf
    obtain ⟨v, ex, h⟩ := hd.one
    obtain ⟨a, ys, ev, h1, h2⟩ := rpTup.mp h
    subst ev
    exact rep_list c I rv a ys ex (.inr (h1.sq c.cc)) h2 g
  · rename_i l
    obtain ⟨v, ex, h⟩ := hd.one
    subst ex
    obtain ⟨u, eu, rx⟩ := vals1 rv
    subst eu
    exact call_dictD c pins s σ H l r v u Q I rx h (by simp only [biD]; exact hf) g
  · rename_i a b
    cases hf
    obtain ⟨v, u, ex, h, h'⟩ := hd.two
    rw [rpInt] at h h'
    subst ex h h'
    exact call_max2 c.calm pins s σ H _ us Q I rv ⟨a, b, rfl, g.int⟩
  · rename_i a b
    cases hf
    obtain ⟨v, u, ex, h, h'⟩ := hd.two
    rw [rpInt] at h h'
    subst ex h h'
    exact call_min2 c.calm pins s σ H _ us Q I rv ⟨a, b, rfl, g.int⟩
  · rename_i l
    obtain ⟨ns, e1, e2⟩ := Option.bind_eq_some_iff.mp hf
    cases ns with
    | nil => cases e2
    | cons n m =>
      cases e2
      obtain ⟨v, ex, h⟩ := hd.one
      obtain ⟨a, ys, ev, h1, h2⟩ := rpTup.mp h
      subst ex ev
      obtain ⟨its, rv2, pl, hz⟩ := I.tuple (h1.sq c.cc)
      rw [Vals.ref1 rv]
      have hu := c.hu
      refine PySem.W.max_tuple_data (x := .int n) (xs := m.map PyData.int) (I.ok.hd c.calm) pl (ints_read (ns := n :: m) (rpa_ints e1 h2) rv2) (ints_alike (n :: m)) (by have := ints_depth (n :: m); simp only [List.map_cons] at this; rw [this]; omega) fun i w h' tk bs hw rd hk => ?_
      rw [PySem.W.maxD_ints] at rd
      cases rd
      exact ⟨.int _, H, I.kept hk, ⟨_, rfl⟩, g.int⟩
  · rename_i l
    obtain ⟨ns, e1, e2⟩ := Option.bind_eq_some_iff.mp hf
    cases ns with
    | nil => cases e2
    | cons n m =>
      cases e2
      obtain ⟨v, ex, h⟩ := hd.one
      obtain ⟨a, ys, ev, h1, h2⟩ := rpTup.mp h
      subst ex ev
      obtain ⟨its, rv2, pl, hz⟩ := I.tuple (h1.sq c.cc)
      rw [Vals.ref1 rv]
      have hu := c.hu
      refine PySem.W.min_tuple_data (x := .int n) (xs := m.map PyData.int) (I.ok.hd c.calm) pl (ints_read (ns := n :: m) (rpa_ints e1 h2) rv2) (ints_alike (n :: m)) (by have := ints_depth (n :: m); simp only [List.map_cons] at this; rw [this]; omega) fun i w h' tk bs hw rd hk => ?_
      rw [PySem.W.minD_ints] at rd
      cases rd
      exact ⟨.int _, H, I.kept hk, ⟨_, rfl⟩, g.int⟩
  · cases hf
/-! ### isinstance -/
theorem isTab_ok : (isTab.all fun q => decide (kitB q.1 q.2.1 = some q.2.2)) = true := by decide +kernel
theorem isi_kit {K : PySem.W.Frag} {a t : String} {b : Bool} (h : (isTab.find? fun q => q.1 == a && q.2.1 == t).map (fun q => q.2.2) = some b) : PySem.W.kitOne K (.type a) (.type t) = some b := by
  obtain ⟨q, h1, h2⟩ := Option.map_eq_some_iff.mp h
  have h3 := List.find?_some h1
  have h4 := List.mem_of_find?_eq_some h1
  have h5 := of_decide_eq_true (List.all_eq_true.mp isTab_ok q h4)
  simp only [Bool.and_eq_true, beq_iff_eq] at h3
  rw [← h3.1, ← h3.2, ← h2]
  exact kit_ty h5
theorem isi2 (c : Ctx X C) {pins : List (Addr × Obj)} {s : Shared} {σ : L2.St} {H : Hp} {d : D} {t : String} {b : Bool} {v : V} {u : Value} {Q : VK} (I : Inv X pins σ H s) (r : RelV v u) (hd : Rp (pX X C) X.K H d v) (e : isiD t d = some b) (q : Q (.bl b) H) :
    wpAny (model X.prog X.w) X.A (call (.builtin "isinstance") [u, .type t]) (EP X pins σ Q) X.xe s := by
  unfold isiD at e
  obtain ⟨a, e1, e2⟩ := Option.bind_eq_some_iff.mp e
  have hk := isi_kit (K := X.K) e2
  have ty : TyX X.K H v (.type a) := by
    cases d <;> simp only [tyN, Option.some.injEq] at e1 <;> try (cases e1; done)
    all_goals subst e1
    · simp only [Rp] at hd; subst hd; exact .base .non
    · rw [rpBool] at hd; subst hd; exact .base (.bl _)
    · rw [rpInt] at hd; subst hd; exact .base (.int _)
    · rw [rpStr] at hd; subst hd; exact .base (.str _)
    · obtain ⟨p, xs, ev, h1, h2⟩ := rpLst.mp hd
      subst ev
      rcases h1 with ⟨o, h1⟩ | ⟨its, n, h1, _⟩
      · exact .base (.frz h1)
      · exact .kList h1 rfl
    · obtain ⟨p, xs, ev, h1, h2⟩ := rpTup.mp hd
      subst ev
      rcases h1 with ⟨_, h1⟩ | ⟨_, o, h1, _⟩ | h1
      · exact .base (.tup h1)
      · exact .fTuple h1
      · obtain ⟨o, its, n, k1, k2, _⟩ := c.cc p _ h1
        exact .kTuple k1 k2
  exact call_isi pins s σ H [v, .ty t] [u, .type t] Q I (.cons r (.cons rfl .nil)) ⟨v, .ty t, .type a, .type t, b, rfl, .ty t, ty, hk, q⟩
end
end PL


set_option Elab.async false
set_option linter.all false
set_option maxRecDepth 100000
/-! PLk: a dict that grows: by d[k] = v, by a comprehension; keys of three kinds. -/
namespace PL
open PySem PySem.Spec PyProof.Rows L2
def putB (bs : List Bool) (b : Bool) : List Bool := if b ∈ bs then bs else bs ++ [b]
/-- what a growing dict holds -/
def DAcc (p : PrW) (K : PySem.W.Frag) (H : Hp) (a : Addr) (acc : List (D × D)) : Prop :=
  (∃ kk, H a = some (.dK kk) ∧ RpD p K H acc kk) ∨ (∃ kt, kt ≠ [] ∧ H a = some (.dT kt) ∧ RpT p K H acc kt) ∨ ∃ bs, bs ≠ [] ∧ H a = some (boolO p.P p.w a bs) ∧ acc.map (·.1) = bs.map PyData.bool
section
variable {p : PrW} {K : PySem.W.Frag} {H : Hp} {T : List D}
theorem rpT_any {k : List Key} : ∀ {kvs : List (D × D)} {kk : List (List Key × V)}, RpT p K H kvs kk → kdAll T (.t k) kvs = true → (kvs.any fun q => decide (kdOf T q.1 = some (.t k))) = kk.any fun q => decide (q.1 = k)
  | [], _, h, _ => by
    simp only [RpT] at h
    subst h
    rfl
  | (dk, d) :: r, _, h, ha => by
    simp only [RpT] at h
    obtain ⟨q, v, l', e, e2, _, h2⟩ := h
    subst e e2
    simp only [kdAll, Bool.and_eq_true] at ha
    obtain ⟨ha, hr⟩ := ha
    rw [List.any_cons, List.any_cons, rpT_any h2 hr]
    cases e4 : kdOf T (.tuple (q.map keyD)) with
    | none => rw [e4] at ha; cases ha
    | some k' =>
      have e5 := kdOf_tup e4
      subst e5
      congr 1
      by_cases hq : q = k
      · subst hq; simp
      · rw [decide_eq_false hq, decide_eq_false (fun z => hq (by cases z; rfl))]
theorem rpT_map {k : List Key} {d : D} {v : V} (hv : Rp p K H d v) : ∀ {kvs : List (D × D)} {kk : List (List Key × V)}, RpT p K H kvs kk → kdAll T (.t k) kvs = true →
    RpT p K H (kvs.map fun q => if kdOf T q.1 = some (.t k) then (q.1, d) else q) (kk.map fun q => if q.1 = k then (q.1, v) else q)
  | [], _, h, _ => by
    simp only [RpT] at h
    subst h
    simp only [List.map_nil, RpT]
  | (dk, d') :: r, _, h, ha => by
    simp only [RpT] at h
    obtain ⟨q, v', l', e, e2, h1, h2⟩ := h
    subst e e2
    simp only [kdAll, Bool.and_eq_true] at ha
    obtain ⟨ha, hr⟩ := ha
    rw [List.map_cons, List.map_cons]
    have ih := rpT_map (k := k) hv h2 hr
    cases e4 : kdOf T (.tuple (q.map keyD)) with
    | none => rw [e4] at ha; cases ha
    | some k' =>
      have e5 := kdOf_tup e4
      subst e5
      by_cases hq : q = k
      · subst hq
        simp only [e4, if_true]
        simp only [RpT]
        exact ⟨q, v, _, rfl, rfl, hv, ih⟩
      · have e3 : ¬ (some (Kd.t q) = some (Kd.t k)) := fun z => hq (by cases z; rfl)
        simp only [e4, if_neg e3, if_neg hq]
        simp only [RpT]
        exact ⟨q, v', _, rfl, rfl, h1, ih⟩
theorem rpT_app {k : List Key} {d : D} {v : V} (hv : Rp p K H d v) : ∀ {kvs : List (D × D)} {kk : List (List Key × V)}, RpT p K H kvs kk → RpT p K H (kvs ++ [(.tuple (k.map keyD), d)]) (kk ++ [(k, v)])
  | [], _, h => by
    simp only [RpT] at h
    subst h
    simp only [List.nil_append, RpT]
    exact ⟨k, v, [], rfl, rfl, hv, rfl⟩
  | (dk, d') :: r, _, h => by
    simp only [RpT] at h
    obtain ⟨q, v', l', e, e2, h1, h2⟩ := h
    subst e e2
    rw [List.cons_append, List.cons_append]
    simp only [RpT]
    exact ⟨q, v', _, rfl, rfl, h1, rpT_app hv h2⟩
theorem rpT_put {k : List Key} {d : D} {v : V} {kvs : List (D × D)} {kk : List (List Key × V)} (h : RpT p K H kvs kk) (ha : kdAll T (.t k) kvs = true) (hv : Rp p K H d v) : RpT p K H (putD T kvs (.tuple (k.map keyD)) (.t k) d) (putK kk k v) := by
  unfold putD putK
  rw [rpT_any h ha]
  split
  · exact rpT_map hv h ha
  · exact rpT_app hv h
theorem kdOf_b {d : D} {b : Bool} (h : kdOf T d = some (.b b)) : d = .bool b := by
  cases d with
  | bool x => simp only [kdOf, Option.some.injEq, Kd.b.injEq] at h; rw [h]
  | int i => simp [kdOf] at h
  | str i => simp [kdOf] at h
  | tuple ds =>
    simp only [kdOf] at h
    split at h
    · cases h
    · obtain ⟨_, _, z⟩ := Option.map_eq_some_iff.mp h
      cases z
  | _ => simp [kdOf] at h
theorem putB_keys {b : Bool} {d : D} : ∀ {kvs : List (D × D)} {bs : List Bool}, kvs.map (·.1) = bs.map PyData.bool → (putD T kvs (.bool b) (.b b) d).map (·.1) = (putB bs b).map PyData.bool := by
  intro kvs bs h
  have hany : ∀ {kvs : List (D × D)} {bs : List Bool}, kvs.map (·.1) = bs.map PyData.bool → (kvs.any fun q => decide (kdOf T q.1 = some (.b b))) = decide (b ∈ bs) := by
    intro kvs
    induction kvs with
    | nil =>
      intro bs h
      cases bs with
      | nil => rfl
      | cons _ _ => cases h
    | cons q r ih =>
      intro bs h
      cases bs with
      | nil => cases h
      | cons c l =>
        simp only [List.map_cons, List.cons.injEq] at h
        rw [List.any_cons, ih h.2, h.1]
        simp only [kdOf, Option.some.injEq, Kd.b.injEq, List.mem_cons, Bool.decide_or]
        congr 1
        exact decide_eq_decide.mpr ⟨fun z => z.symm, fun z => z.symm⟩
  unfold putD putB
  rw [hany h]
  by_cases hb : b ∈ bs
  · rw [if_pos (by simpa using hb), if_pos hb, ← h, List.map_map]
    congr 1
    funext q
    simp only [Function.comp]
    split <;> rfl
  · rw [if_neg (by simpa using hb), if_neg hb, List.map_append, h, List.map_append]
    rfl
end
section
variable {X : Cx} {C : Addr → Option (List V)} {T : List D} {pins : List (Addr × Obj)} {σ : L2.St} {H : Hp} {s : Shared} {a : Addr}
theorem DAcc.mut {p : PrW} {K : PySem.W.Frag} {acc : List (D × D)} (h : DAcc p K H a acc) : Mut (H a) := by
  rcases h with ⟨_, h, _⟩ | ⟨_, _, h, _⟩ | ⟨_, _, h, _⟩ <;> rw [h] <;> exact True.intro
theorem DAcc.kp {p : PrW} {K : PySem.W.Frag} {acc : List (D × D)} (h : DAcc p K H a acc) {o : HO} : Kp H (upd H a o) := by
  refine ⟨fun b xs e => ?_, fun b ob u e => ?_⟩
  all_goals
    by_cases hb : b = a
    · subst hb
      rcases h with ⟨_, h, _⟩ | ⟨_, _, h, _⟩ | ⟨_, _, h, _⟩ <;> (rw [h] at e; cases e)
    · rw [upd_ne hb]; exact e
/-- the empty dict, told otherwise -/
theorem asT (I : Inv X pins σ H s) (h : H a = some (.dK [])) : Inv X pins σ (upd H a (.dT [])) s := by
  obtain ⟨z, hd, vs, rel, o, es, ep, ho, hx, hdt, hk, hp, hn⟩ := dk_of I.hok h
  have ev : vs = [] := List.eq_nil_of_length_eq_zero rel.length.symm
  subst ev
  have e0 : es.toList = [] := by
    have := hp.length
    simp only [List.length_nil] at this
    exact List.eq_nil_of_length_eq_zero (by simpa using this)
  exact d_write (h' := s.heap) (t' := s.toks) I (by rw [h]; exact True.intro) ⟨rfl, fun _ _ => rfl⟩ ⟨o, ho⟩ ⟨Nat.zero_le _, hd, [], .nil, o, es, ep, ho, hx, hdt, by rw [e0]; rfl, List.nodup_nil⟩
theorem boolO_ok {P : Program} {w : World} {H' : Hp} {h' : Heap} {bs : List Bool} (hd : (a == sysModules) = false) (z : bs.length ≤ sizeLine) {vs : List (Leaf × Value)} (dd : h'.DictOf (leafKind P w) a vs) (hk : vs.map (·.1) = bs.map fun b => Leaf.num (if b = true then 1 else 0)) :
    ObjOk P w H' h' a (boolO P w a bs) := by
  refine ⟨⟨hd, z, vs, dd, hk⟩, ?_, ?_⟩
  · obtain ⟨o, _, _, ho, _⟩ := dd
    exact ⟨o, ho⟩
  · rintro h1 h2 ⟨x1, x2, ws, ⟨o, es, ep, ho, r⟩, x3⟩ k
    exact ⟨x1, x2, ws, ⟨o, es, ep, k o ho, r⟩, x3⟩
theorem asBl (I : Inv X pins σ H s) (h : H a = some (.dK [])) : Inv X pins σ (upd H a (boolO X.prog X.w a [])) s := by
  obtain ⟨z, hd, vs, rel, o, es, ep, ho, hx, hdt, hk, hp, hn⟩ := dk_of I.hok h
  have ev : vs = [] := List.eq_nil_of_length_eq_zero rel.length.symm
  subst ev
  have e0 : es.toList = [] := by
    have := hp.length
    simp only [List.length_nil] at this
    exact List.eq_nil_of_length_eq_zero (by simpa using this)
  have e1 : es = #[] := by simpa using e0
  subst e1
  refine d_write (h' := s.heap) (t' := s.toks) I (by rw [h]; exact True.intro) ⟨rfl, fun _ _ => rfl⟩ ⟨o, ho⟩ (boolO_ok hd (Nat.zero_le _) (vs := []) ⟨o, #[], ep, ho, hx, hdt, ?_, ?_, List.nodup_nil⟩ rfl)
  · intro e he
    simp at he
  · exact .nil
theorem leaf_bool {P : Program} {w : World} (b : Bool) : (leafKind P w).is (.num (if b = true then 1 else 0)) (.bool b) = true := by cases b <;> rfl
theorem dacc_len {p : PrW} {K : PySem.W.Frag} {acc : List (D × D)} (h : DAcc p K H a acc) (x : HOk p.P p.w H s.heap) : acc.length ≤ sizeLine := by
  rcases h with ⟨kk, h1, h2⟩ | ⟨kt, h0, h1, h2⟩ | ⟨bs, h0, h1, h2⟩
  · rw [← rpD_len h2]
    exact (show ObjOk p.P p.w H s.heap a (.dK kk) from x a _ h1).1
  · rw [← rpT_len h2]
    exact (show ObjOk p.P p.w H s.heap a (.dT kt) from x a _ h1).1
  · have e := congrArg List.length h2
    simp only [List.length_map] at e
    rw [e]
    exact (show ObjOk p.P p.w H s.heap a (boolO p.P p.w a bs) from x a _ h1).1.2.1
theorem leaf_inj {b c : Bool} (h : Leaf.num (if b = true then 1 else 0) = Leaf.num (if c = true then 1 else 0)) : b = c := by
  cases b <;> cases c <;> first | rfl | (injection h with h; exact absurd h (by decide))
theorem stored_keys {bs : List Bool} {b : Bool} {u : Value} : ∀ {vs : List (Leaf × Value)}, vs.map (·.1) = bs.map (fun b => Leaf.num (if b = true then 1 else 0)) → (stored vs (Leaf.num (if b = true then 1 else 0)) u).map (·.1) = (putB bs b).map (fun b => Leaf.num (if b = true then 1 else 0)) := by
  intro vs h
  have hany : ∀ {vs : List (Leaf × Value)} {bs : List Bool}, vs.map (·.1) = bs.map (fun b => Leaf.num (if b = true then 1 else 0)) → (vs.any fun kv => decide (kv.1 = Leaf.num (if b = true then 1 else 0))) = decide (b ∈ bs) := by
    intro vs
    induction vs with
    | nil =>
      intro bs h
      cases bs with
      | nil => rfl
      | cons _ _ => cases h
    | cons q r ih =>
      intro bs h
      cases bs with
      | nil => cases h
      | cons c l =>
        simp only [List.map_cons, List.cons.injEq] at h
        rw [List.any_cons, ih h.2, h.1]
        simp only [List.mem_cons, Bool.decide_or]
        congr 1
        exact decide_eq_decide.mpr ⟨fun z => (leaf_inj z).symm, fun z => by rw [z]⟩
  unfold stored putB
  rw [hany h]
  by_cases hb : b ∈ bs
  · rw [if_pos (by simpa using hb), if_pos hb, ← h, List.map_map]
    congr 1
    funext q
    show (if q.1 = Leaf.num (if b = true then 1 else 0) then (q.1, u) else q).1 = q.1
    by_cases z : q.1 = Leaf.num (if b = true then 1 else 0)
    · rw [if_pos z]
    · rw [if_neg z]
  · rw [if_neg (by simpa using hb), if_neg hb, List.map_append, h, List.map_append]
    rfl
theorem putB_ne {bs : List Bool} {b : Bool} : putB bs b ≠ [] := by
  unfold putB
  split
  · rename_i h
    intro z
    rw [z] at h
    cases h
  · simp
theorem putK_ne {κ : Type} [DecidableEq κ] {kvs : List (κ × V)} {k : κ} {v : V} : putK kvs k v ≠ [] := by
  unfold putK
  split
  · rename_i h
    cases kvs with
    | nil => cases h
    | cons _ _ => simp
  · simp
theorem putB_le (bs : List Bool) (b : Bool) : (putB bs b).length ≤ bs.length + 1 := by
  unfold putB
  split <;> simp
/-- D[k] = v of a dict in the making -/
theorem dict_store (c : Ctx X C) (tk : TOk (pX X C) T) {E : Value → Shared → Prop} {acc : List (D × D)} {dk dv : D} {q : Kd} {y z : V} {u r : Value} {Q : Unit → Shared → Prop} (I : Inv X pins σ H s) (h : DAcc (pX X C) X.K H a acc) (hq : kdOf T dk = some q) (ha : kdAll T q acc = true)
    (ry : RelV y u) (rz : RelV z r) (hk : Rp (pX X C) X.K H dk y) (hv : Rp (pX X C) X.K H dv z) (hl : acc.length < sizeLine) (hQ : ∀ s' o, Inv X pins σ (upd H a o) s' → DAcc (pX X C) X.K (upd H a o) a (putD T acc dk q dv) → Q () s') :
    wpAny (model X.prog X.w) X.A (dictSet a u r) Q E s := by
  have kp : ∀ {o : HO}, Kp H (upd H a o) := h.kp
  have hu := c.hu
  cases q with
  | k key =>
    obtain ⟨ey, ed⟩ := rp_key1 hk hq
    subst ey ed
    have hK : ∃ kk, H a = some (.dK kk) ∧ RpD (pX X C) X.K H acc kk := by
      rcases h with ⟨kk, h1, h2⟩ | ⟨kt, h0, h1, h2⟩ | ⟨bs, h0, h1, h2⟩
      · exact ⟨kk, h1, h2⟩
      · have e := kdAll_k h2 ha
        subst e
        simp only [RpT] at h2
        exact absurd h2 h0
      · exact absurd (kdAll_b rfl h2 ha) h0
    obtain ⟨kk, h1, h2⟩ := hK
    refine d_dictSet I h1 (by rw [rpD_len h2]; exact hl) ry rz fun s' I' => hQ s' _ I' (.inl ⟨_, upd_same, rpD_put (RpD.keep kp _ _ h2) (Rp.keep kp _ _ hv)⟩)
  | t ks =>
    obtain ⟨b, ey, hb, ed⟩ := rp_key tk hk hq
    subst ey ed
    cases ry
    have hT : ∃ kt, Inv X pins σ (upd H a (.dT kt)) s ∧ RpT (pX X C) X.K H acc kt := by
      rcases h with ⟨kk, h1, h2⟩ | ⟨kt, h0, h1, h2⟩ | ⟨bs, h0, h1, h2⟩
      · have e := kdAll_t h2 ha
        subst e
        simp only [RpD] at h2
        subst h2
        exact ⟨[], asT I h1, by simp only [RpT]⟩
      · refine ⟨kt, ?_, h2⟩
        have e : upd H a (.dT kt) = H := by
          funext b
          by_cases hb : b = a
          · subst hb; rw [upd_same, h1]
          · rw [upd_ne hb]
        rw [e]
        exact I
      · exact absurd (kdAll_b rfl h2 ha) h0
    obtain ⟨kt, I1, h2⟩ := hT
    obtain ⟨z1, hd, xs, rel, dd⟩ := dt_of I1.hok upd_same
    have eb : (upd H a (.dT kt)) b = some (.tup (ks.map kV)) := kp.1 _ _ hb
    have hlx : kt.length = xs.length := Paired.length rel
    refine wpAny_dictSet_heap ((show X.A.units < cLine by omega)) (key_of I1.hok eb) dd (fun h' dd' hs => ?_) (by rw [← hlx]; exact z1)
    have he : ∃ q, h'.get? a = some q := let ⟨q, _, _, hq, _⟩ := dd'; ⟨q, hq⟩
    have hne : b ≠ a := fun e => by rw [e, upd_same] at eb; cases eb
    have I2 : Inv X pins σ (upd (upd H a (.dT kt)) a (.dT (putK kt ks z))) { s with heap := h', toks := s.toks + (tupleKind (mixKind X.prog X.w)).draws ks } := by
      refine d_write I1 (by rw [upd_same]; exact True.intro) hs he ?_
      obtain ⟨o, es, ep, g1, g2, g3, g4, g5, g6⟩ := dd'
      refine ⟨?_, hd, storedH xs ks b r, ?_, o, es, ep, g1, g2, g3, g4, g6⟩
      · have := length_putK kt ks z
        have e := rpT_len h2
        omega
      · refine KT.keeps (KT.put rel ks eb rz) fun b' ys e => ?_
        by_cases hb' : b' = a
        · subst hb'; rw [upd_same] at e; cases e
        · rw [upd_ne hb']; exact e
    rw [upd_upd] at I2
    exact hQ _ _ I2 (.inr (.inl ⟨_, putK_ne, upd_same, rpT_put (RpT.keep kp _ _ h2) ha (Rp.keep kp _ _ hv)⟩))
  | b bb =>
    have ed := kdOf_b hq
    subst ed
    rw [rpBool] at hk
    subst hk
    cases ry
    have hB : ∃ bs, Inv X pins σ (upd H a (boolO X.prog X.w a bs)) s ∧ acc.map (·.1) = bs.map PyData.bool := by
      have kn : ∀ {q : D × D} {l : List (D × D)}, acc = q :: l → ∃ c, q.1 = .bool c := by
        intro q l e
        rw [e] at ha
        simp only [kdAll, Bool.and_eq_true] at ha
        cases e5 : kdOf T q.1 with
        | none => rw [e5] at ha; cases ha.1
        | some q' =>
          rw [e5] at ha
          cases q' with
          | b c => exact ⟨c, kdOf_b e5⟩
          | k _ => cases ha.1
          | t _ => cases ha.1
      rcases h with ⟨kk, h1, h2⟩ | ⟨kt, h0, h1, h2⟩ | ⟨bs, h0, h1, h2⟩
      · cases acc with
        | nil =>
          simp only [RpD] at h2
          subst h2
          exact ⟨[], asBl I h1, rfl⟩
        | cons q l =>
          obtain ⟨c', e⟩ := kn rfl
          obtain ⟨dk', dv'⟩ := q
          simp only [RpD] at h2
          obtain ⟨q', _, _, _, e2, _⟩ := h2
          simp only at e
          rw [e] at e2
          cases q' <;> cases e2
      · cases acc with
        | nil => simp only [RpT] at h2; exact absurd h2 h0
        | cons q l =>
          obtain ⟨c', e⟩ := kn rfl
          obtain ⟨dk', dv'⟩ := q
          simp only [RpT] at h2
          obtain ⟨q', _, _, _, e2, _⟩ := h2
          simp only at e
          rw [e] at e2
          cases e2
      · refine ⟨bs, ?_, h2⟩
        have e : upd H a (boolO X.prog X.w a bs) = H := by
          funext b
          by_cases hb : b = a
          · subst hb; rw [upd_same]; exact h1.symm
          · rw [upd_ne hb]
        rw [e]
        exact I
    obtain ⟨bs, I1, h2⟩ := hB
    obtain ⟨⟨hd, z1, vs, dd, hkk⟩, _⟩ := (show ObjOk X.prog X.w (upd H a (boolO X.prog X.w a bs)) s.heap a (boolO X.prog X.w a bs) from I1.hok a _ upd_same)
    have hlv : vs.length = bs.length := by
      have := congrArg List.length hkk
      simpa using this
    have hlb : acc.length = bs.length := by
      have := congrArg List.length h2
      simpa using this
    refine wpAny_dictSet_pairs (knd := leafKind X.prog X.w) (k := .num (if bb = true then 1 else 0)) (leaf_bool bb) dd (fun h' dd' hs => ?_) (by rw [hlv]; exact z1)
    have he : ∃ q, h'.get? a = some q := let ⟨q, _, _, hq, _⟩ := dd'; ⟨q, hq⟩
    have I2 : Inv X pins σ (upd (upd H a (boolO X.prog X.w a bs)) a (boolO X.prog X.w a (putB bs bb))) { s with heap := h', toks := s.toks + 1 } :=
      d_write I1 (by rw [upd_same]; exact True.intro) hs he (boolO_ok hd (by have := putB_le bs bb; omega) dd' (stored_keys hkk))
    rw [upd_upd] at I2
    exact hQ _ _ I2 (.inr (.inr ⟨_, putB_ne, upd_same, putB_keys h2⟩))
end
end PL


set_option Elab.async false
set_option linter.all false
set_option maxRecDepth 100000
/-! PLl: dict comprehensions with keys of three kinds. -/
namespace PL
open PySem PySem.Spec PyProof.Rows L2
/-- how a comprehension's dict takes a pair -/
abbrev TPut := Hp → Addr → V → V → (Hp → Prop) → Prop
def PutOk (X : Cx) (put : TPut) : Prop := ∀ (pins : List (Addr × Obj)) (s : Shared) (σ : L2.St) (H : Hp) (a : Addr) (y z : V) (u r : Value) (Qh : Hp → Prop) (E : Value → Shared → Prop), Inv X pins σ H s → RelV y u → RelV z r → put H a y z Qh →
  wpAny (model X.prog X.w) X.A (dictSet a u r) (fun _ s' => ∃ H', Inv X pins σ H' s' ∧ Qh H') E s
/-- a dict comprehension's reading -/
def tDx (put : TPut) (wi : TI) (g : TG) (tt : TT) (tk tv : TE) (vs : List Nat) : TE := fun σ H Q => wi σ H fun J H1 => ∀ a, H1 a = none → ∃ W : Nat → Nat → Hp → Prop, (∃ m, W 0 m (upd H1 a (.dK []))) ∧
  ∀ i m H, W i m H → (J.stop i H ∧ ∀ od o, H a = some o → Mut (some o) → Q (.ref a) (upd H a (.frz od o))) ∧ (∃ o, H a = some o ∧ Mut (some o)) ∨ (J.go i H ∧ ∃ Nx : Hp → Prop, (∀ H', Nx H' → ∃ m', m' < m ∧ W (i + 1) m' H') ∧
    ∀ x H', J.yld i H x H' → g x (wipe σ vs) H' fun σ2 H2 => wipe σ2 vs = wipe σ vs ∧ tt σ2 H2 fun b H3 => if b = true then tk σ2 H3 fun y H4 => tv σ2 H4 fun z H5 => put H5 a y z Nx else Nx H3)
section
variable {X : Cx}
abbrev blkOf (X : Cx) (scope : Scope) (s : Shared) (H : Hp) (c : Addr) (cl : List (Str × Addr)) (fp : List Addr) : Cx := X.blk s H scope (compEnvC scope cl c X.env) fp
theorem dx_core {pins : List (Addr × Obj)} {s : Shared} {σ : L2.St} {H : Hp} {Q : VK} {use : Option (Value → Sem Unit)} {Qf : Value → Shared → Prop} {pos' : Pos} {kx vx tg iter : Expr} {ifs : List Expr} {scope : Scope} {own : List (Str × Nat)} {pos : Pos} {put : TPut} {wi : TI} {g : TG} {tt : TT} {tk tv : TE} (hcalm : X.calm = true) (I : Inv X pins σ H s) (hnd : X.N.Nodup)
    (hi : PI X tg iter wi) (ok : BlkOk X.N X.env.scope scope own) (hg : ∀ s H c cl fp, PG (blkOf X scope s H c cl fp) tg g) (ht : ∀ s H c cl fp, PTs (blkOf X scope s H c cl fp) ifs tt)
    (hk : ∀ s H c cl fp, PE (blkOf X scope s H c cl fp) kx tk) (hv : ∀ s H c cl fp, PE (blkOf X scope s H c cl fp) vx tv) (hp : ∀ s H c cl fp, PutOk (blkOf X scope s H c cl fp) put)
    (hfold : ∀ x, foldedSetIterable iter X.env x = pure x) (h : tDx put wi g tt tk tv (own.map (·.2)) σ H Q)
    (fin0 : ∀ a C s' m H', Inv X pins σ H' s' → Q (.ref a) H' → s'.heap.Ns C m → FpOk X pins H' C → compPost (model X.prog X.w) X.A X.xe use Qf (.ref a) C (.ok .next) s') :
    wpAny (model X.prog X.w) X.A (comprehension (.DictComp kx vx [⟨tg, iter, ifs, 0⟩] scope pos) scope X.env pos' newDict false (eval iter X.env) use) Qf X.xe s := by
  have hcl : ∀ y ∈ scope.names, y.2 = .free → ∃ c, X.env.cells.lookup y.1 = some c := fun y hy e => by
    rcases ok.free y hy e with k | k
    · exact I.ok.has _ (.inl k)
    · exact I.ok.has _ (.inr k)
  refine wpAny_comprehension_free (use := use) rfl hfold (closure_ok hcl) ok.kind (fun y hy e => by rw [ok.uniq y hy, e]) (thn (hi.run pins s σ H _ I h) fun xv sA hA => thn hA fun itv sB ⟨it, fp, tn, J, HB, eit, IB, TU, stB, fB, q⟩ => ?_)
  subst eit
  refine wpAny_newObj_type (newEnv_comp ?_)
  have hnew : HB sB.heap.objs.size = none := IB.hok.fresh (Nat.le_refl _)
  generalize hd : sB.heap.objs.size = dd at hnew
  obtain ⟨W, ⟨m0, w0⟩, turn⟩ := q dd hnew
  generalize hsC : ({ sB with heap := sB.heap.push { cls := .type "dict", data := .dict #[] } } : Shared) = sC
  have hpC : sC.heap = sB.heap.push { cls := .type "dict", data := .dict #[] } := by rw [← hsC]
  generalize hHC : upd HB dd (.dK []) = HC at w0
  have IC : Inv X pins σ HC sC := by
    rw [← hsC, ← hHC]
    exact IB.laid (t' := sB.toks) (fun b o e => Heap.get?_push_of_some _ e) (Nat.le_of_eq hd) (by rw [← hd]; exact dk_empty sB.heap IB.big)
  have lt : ∀ b ∈ fp, b < sB.heap.objs.size := fun b hb => by
    obtain ⟨o, e, _⟩ := TU.obj _ _ stB b hb
    exact Heap.lt_size e
  have fC : ∀ b ∈ fp, FpOk X pins HC b ∧ b < sC.heap.objs.size := fun b hb => by
    refine ⟨⟨?_, (fB b hb).2⟩, by rw [hpC, Heap.size_push]; exact Nat.lt_succ_of_lt (lt b hb)⟩
    rw [← hHC, upd_ne (by rw [← hd]; exact Nat.ne_of_lt (lt b hb))]
    exact (fB b hb).1
  have stC : tn 0 sC.heap := TU.keep _ _ _ stB fun b _ o e => by rw [hpC]; exact Heap.get?_push_of_some _ e
  have IE := block_start IC ok hnd fC
  -- the block's own context
  let cells := cellsFrom (sC.heap.objs.size + 1) scope.names (cloFrom X.env.cells scope.names [])
  have pg := hg sC HC sC.heap.objs.size cells fp
  have pt := ht sC HC sC.heap.objs.size cells fp
  have pk := hk sC HC sC.heap.objs.size cells fp
  have pv := hv sC HC sC.heap.objs.size cells fp
  have pp := hp sC HC sC.heap.objs.size cells fp
  show codeAny _ _ (.compStart (.DictComp kx vx [⟨tg, iter, ifs, 0⟩] scope pos) 0 (.ref it) (.ref dd) (compEnvC scope cells sC.heap.objs.size X.env)) _ { sC with heap := pushCells (sC.heap.push { cls := .type "dict", data := .dict #[] }) scope.names }
  change Inv (blkOf X scope sC HC sC.heap.objs.size cells fp) _ _ _ _ at IE
  generalize hY : blkOf X scope sC HC sC.heap.objs.size cells fp = Y at IE pg pt pk pv pp
  generalize hce : compEnvC scope cells sC.heap.objs.size X.env = ce
  have eY : Y = X.blk sC HC scope ce fp := by rw [← hY, ← hce]
  have hloc : ce.locals = sC.heap.objs.size := by rw [← hce]; rfl
  subst eY
  generalize hsE : ({ sC with heap := pushCells (sC.heap.push { cls := .type "dict", data := .dict #[] }) scope.names } : Shared) = sE at IE ⊢
  have stE : tn 0 sE.heap := TU.keep _ _ _ stC fun b _ o e => by rw [← hsE]; exact pushCells_keeps _ _ _ _ (Heap.get?_push_of_some _ e)
  have apart : ∀ {τ : L2.St} {H' : Hp} {s' : Shared}, Inv (X.blk sC HC scope ce fp) [] τ H' s' → (∀ b ∈ fp, H' b = none) → ∀ b ∈ fp, FpOk (X.blk sC HC scope ce fp) [] H' b := fun {τ H' s'} J' hn b hb =>
    ⟨hn b hb, (J'.ok.exf b hb).1, J'.ok.exfs b hb, .inl hb, fun x c e => (J'.ok.exf b hb).2 x c e, fun pr hpr => by cases hpr⟩
  refine (fun loop => codeAny_compStart_dict loop (TU.self X.A 0 _ _ _ stE loop)) ?_
  refine compLoop_anyD (fun n s' => ∃ i H', Inv (X.blk sC HC scope ce fp) [] (wipe σ (own.map (·.2))) H' s' ∧ tn i s'.heap ∧ (∀ b ∈ fp, H' b = none) ∧ W i n H') ?_ m0 ⟨0, HC, IE, stE, fun b hb => (fC b hb).1.1, w0⟩
  rintro n s5 ⟨i, H5, I5, st5, n5, w5⟩
  rcases turn i n H5 w5 with ⟨⟨stop, qq⟩, o5, ho5, mo5⟩ | ⟨go, Nx, hNx, step⟩
  · refine thnF (TU.done (X.blk sC HC scope ce fp) rfl rfl rfl hcalm i [] s5 _ H5 (fun _ _ => False) I5 (apart I5 n5) st5 stop) fun r s6 ⟨hr, I6⟩ => ?_
    subst hr
    have I7 : Inv X pins σ H5 s6 := IC.call' (ch := fp) I6.os I6.base I6.hok I6.bare fun b hb => ⟨(fC b hb).1.2.2.2.1, (fC b hb).1.2.1, (fC b hb).1.2.2.2.2.1, (fC b hb).1.2.2.2.2.2⟩
    have nC : H5 sC.heap.objs.size = none := by
      rw [← hloc]
      exact I6.free
    obtain ⟨m, hn, _⟩ := I6.loc
    have hn : s6.heap.Ns ce.locals m := hn
    rw [hloc] at hn
    obtain ⟨od, I8⟩ := I7.lock ho5 mo5
    have ne : sC.heap.objs.size ≠ dd := fun e => by rw [e, ho5] at nC; cases nC
    exact fin0 dd sC.heap.objs.size s6 m _ I8 (qq od o5 ho5 mo5) hn (IC.fpOk (Nat.le_refl sC.heap.objs.size) (by rw [upd_ne ne]; exact nC))
  · refine thnF (TU.item (X.blk sC HC scope ce fp) rfl rfl rfl hcalm i [] s5 _ H5 (fun _ _ => False) I5 (apart I5 n5) st5 go) fun r s6 ⟨u, hr, h6⟩ => ?_
    subst hr
    refine thnF h6 fun _ s7 ⟨x, H7, I7, r7, y7, st7, n7⟩ => ?_
    refine thnF (pg.run _ s7 _ H7 x u _ (I7.pinned (apart I7 n7) (TU.obj _ _ st7)) r7 (step x H7 y7)) fun _ s8 ⟨τ, H8, I8, hw8, q8⟩ => ?_
    refine thnF (pt.run _ s8 τ H8 _ I8 q8) fun b s9 ⟨H9, I9, q9⟩ => ?_
    have fin : ∀ {s' : Shared} {H' : Hp}, Inv (X.blk sC HC scope ce fp) ([] ++ pinsAt fp s7.heap) τ H' s' → Nx H' → ∃ m, m < n ∧ ∃ i H', Inv (X.blk sC HC scope ce fp) [] (wipe σ (own.map (·.2))) H' s' ∧ tn i s'.heap ∧ (∀ b ∈ fp, H' b = none) ∧ W i m H' := fun {s' H'} I' nx => by
      obtain ⟨m', hm, w'⟩ := hNx H' nx
      have pinned : ∀ b ∈ fp, ∀ o, s7.heap.get? b = some o → s'.heap.get? b = some o ∧ H' b = none := fun b hb o e =>
        have z := I'.pin (b, o) (List.mem_append_right _ (List.mem_append_right _ (mem_pinsAt hb e)))
        ⟨z.1, z.2.1⟩
      refine ⟨m', hm, i + 1, H', (I'.unpinned (pins := [])).weak (by rw [← hw8, wipe_length]) (fun j v e => ?_), TU.keep _ _ _ st7 fun b hb o e => (pinned b hb o e).1, fun b hb => ?_, w'⟩
      · rw [← hw8] at e
        exact (wipe_some e).1
      · obtain ⟨o, e, _⟩ := TU.obj _ _ st7 b hb
        exact (pinned b hb o e).2
    cases b with
    | false => exact fin I9 q9
    | true =>
      refine thnF (pk.run _ s9 τ H9 _ I9 q9) fun z s10 ⟨yk, H10, I10, r10, q10⟩ => ?_
      refine thnF (pv.run _ s10 τ H10 _ I10 q10) fun z2 s11 ⟨yv, H11, I11, r11, q11⟩ => ?_
      exact wpAny_mono (pp _ s11 τ H11 dd yk yv z z2 Nx (notedBy (model X.prog X.w) X.A ce fun e s' => _) I11 r10 r11 q11) (fun _ s12 ⟨H12, I12, nx⟩ => fin I12 nx) fun _ _ h => h
theorem pe_dx {kx vx tg iter : Expr} {ifs : List Expr} {scope : Scope} {own : List (Str × Nat)} {pos : Pos} {put : TPut} {wi : TI} {g : TG} {tt : TT} {tk tv : TE} (hcalm : X.calm = true) (hnd : X.N.Nodup)
    (hi : PI X tg iter wi) (ok : BlkOk X.N X.env.scope scope own) (hg : ∀ s H c cl fp, PG (blkOf X scope s H c cl fp) tg g) (ht : ∀ s H c cl fp, PTs (blkOf X scope s H c cl fp) ifs tt)
    (hk : ∀ s H c cl fp, PE (blkOf X scope s H c cl fp) kx tk) (hv : ∀ s H c cl fp, PE (blkOf X scope s H c cl fp) vx tv) (hp : ∀ s H c cl fp, PutOk (blkOf X scope s H c cl fp) put)
    (hfold : ∀ x, foldedSetIterable iter X.env x = pure x) : PE X (.DictComp kx vx [⟨tg, iter, ifs, 0⟩] scope pos) (tDx put wi g tt tk tv (own.map (·.2))) := by
  refine ⟨fun pins s σ H Q I h => ?_⟩
  rw [arm_eval_DictComp]
  refine dx_core hcalm I hnd hi ok hg ht hk hv hp hfold h fun a C s' m H' I' q hn f => ⟨m, hn, fun h'' sb => ?_⟩
  obtain ⟨f0, f1, f2, f3, f4, f5⟩ := f
  exact ⟨.ref a, H', I'.turned (t' := s'.toks) (fun b o hb e => (sb.2 b hb).trans e) f0 f1 f3 f4 f5, rfl, q⟩
/-- x = {..} on one line: the name takes the dict before the block's frame is let go -/
theorem ps_setDx {i : Nat} {y : Str} {py : Pos} {kx vx tg iter : Expr} {ifs : List Expr} {scope : Scope} {own : List (Str × Nat)} {pos spos : Pos} {put : TPut} {wi : TI} {g : TG} {tt : TT} {tk tv : TE} (hcalm : X.calm = true) (hnd : X.N.Nodup)
    (hy : X.N[i]? = some y) (hyl : X.env.scope.names.lookup y = some .local) (hsw : swapsWith (.DictComp kx vx [⟨tg, iter, ifs, 0⟩] scope pos) (some (.Name y py)) spos.line X.env = pure true)
    (hi : PI X tg iter wi) (ok : BlkOk X.N X.env.scope scope own) (hg : ∀ s H c cl fp, PG (blkOf X scope s H c cl fp) tg g) (ht : ∀ s H c cl fp, PTs (blkOf X scope s H c cl fp) ifs tt)
    (hk : ∀ s H c cl fp, PE (blkOf X scope s H c cl fp) kx tk) (hv : ∀ s H c cl fp, PE (blkOf X scope s H c cl fp) vx tv) (hp : ∀ s H c cl fp, PutOk (blkOf X scope s H c cl fp) put)
    (hfold : ∀ x, foldedSetIterable iter X.env x = pure x) : PS X (.Assign [.Name y py] (.DictComp kx vx [⟨tg, iter, ifs, 0⟩] scope pos) spos) (tAsg (tDx put wi g tt tk tv (own.map (·.2))) (gName i)) := by
  refine ⟨fun pins s σ H E I h => ?_⟩
  rw [exec_Assign_Name_used _ _ _ _ hsw]
  refine wpAny_bind (wpAny_standAt (wpAny_bind ?_))
  show wpAny _ X.A (do let _ ← comprehension (.DictComp kx vx [⟨tg, iter, ifs, 0⟩] scope pos) scope X.env (firstIterPos [⟨tg, iter, ifs, 0⟩] pos) newDict false (eval iter X.env) (some (assign (.Name y py) X.env))) _ _ s
  have h : tDx put wi g tt tk tv (own.map (·.2)) σ H (fun x H1 => gName i x σ H1 E.nx) := h
  refine wpAny_bind (thn (dx_core (Qf := fun _ s' => SP X pins E .next s') hcalm I hnd hi ok hg ht hk hv hp hfold h fun L c s' mm H' I' q hn f => ?_) fun _ s' hq => wpAny_pure (wpAny_pure hq))
  show wpAny _ _ (assign (.Name y py) X.env (.ref L)) _ _ _
  refine wpAny_assign_Name (store_ok2 (v := V.ref L) I' hnd hy (.inl hyl) rfl (fun s2 I2 ⟨a, sb, ha⟩ => ?_) (.inr hyl))
  obtain ⟨f0, f1, f2, f3, f4, f5⟩ := f
  have hne : c ≠ a := by
    rcases ha with z | z
    · rw [z]; exact f1
    · exact fun e => f4 y a z e.symm
  exact ⟨mm, hn.sameBut sb hne, fun h3 sb3 => ⟨_, H', I2.turned (t' := s2.toks) (fun b o hb e => (sb3.2 b hb).trans e) f0 f1 f3 f4 f5, q⟩⟩
end
end PL


set_option Elab.async false
set_option linter.all false
set_option maxRecDepth 100000
/-! PLm: expressions, each construct with the readings of its parts. -/
namespace PL
open PySem PySem.Spec PyProof.Rows L2
theorem bnd {α β : Type} {o : Option α} {f : α → Option β} {b : β} (h : o.bind f = some b) : ∃ a, o = some a ∧ f a = some b := Option.bind_eq_some_iff.mp h
theorem mpd {α β : Type} {o : Option α} {f : α → β} {b : β} (h : o.map f = some b) : ∃ a, o = some a ∧ f a = b := Option.map_eq_some_iff.mp h
theorem asB_some {o : Option D} {b : Bool} (h : asB o = some b) : o = some (.bool b) := by
  unfold asB at h
  split at h
  · cases h; rfl
  · cases h
theorem asI_some {o : Option D} {b : Int} (h : asI o = some b) : o = some (.int b) := by
  unfold asI at h
  split at h
  · cases h; rfl
  · cases h
/-- lists, tuples, dicts are not too long -/
def SzOk (H : Hp) : Prop := ∀ a, (∀ xs, Rd H a (.lst xs) → xs.length ≤ sizeLine) ∧ (∀ xs, Rd H a (.tup xs) → xs.length ≤ sizeLine) ∧ (∀ kk, Rd H a (.dK kk) → kk.length ≤ sizeLine) ∧ ∀ kt, Rd H a (.dT kt) → kt.length ≤ sizeLine
section
variable {X : Cx} {C : Addr → Option (List V)} {T : List D}
theorem szOkI {pins : List (Addr × Obj)} {s : Shared} {σ : L2.St} {H : Hp} (I : Inv X pins σ H s) : SzOk H := fun a => ⟨fun xs h => (h.ok I.hok).1, fun xs h => (h.ok I.hok).1, fun kk h => (h.ok I.hok).1, fun kt h => (h.ok I.hok).1⟩
theorem SzOk.lst {K : PySem.W.Frag} {H : Hp} {a : Addr} {xs : List V} (z : SzOk H) (h : FzL K H a xs) : xs.length ≤ sizeLine := by
  rcases h with ⟨o, h⟩ | ⟨its, n, h1, h2, h3⟩
  · exact (z a).1 xs (.inr ⟨o, h⟩)
  · have := h3.length
    simp only [Array.length_toList] at this
    omega
theorem SzOk.tup {p : PrW} {K : PySem.W.Frag} (cc : COk p K) {H : Hp} {a : Addr} {k : Bool} {xs : List V} (z : SzOk H) (h : TpT p H a k xs) : xs.length ≤ sizeLine := by
  rcases h with ⟨_, h⟩ | ⟨_, o, h, _⟩ | h
  · exact (z a).2.1 xs (.inl h)
  · exact (z a).2.1 xs (.inr ⟨o, h⟩)
  · obtain ⟨o, its, n, h1, h2, h3, h4, h5, h6⟩ := cc a xs h
    have := h6.length
    simp only [Array.length_toList] at this
    omega
theorem PEsz {e : Expr} {t : TE} (h : PE X e t) : PE X e (fun σ H Q => t σ H fun v H' => SzOk H' → Q v H') :=
  ⟨fun pins s σ H Q I q => thn (h.run pins s σ H _ I q) fun u s' ⟨v, H', I', r, q'⟩ => ⟨v, H', I', r, q' (szOkI I')⟩⟩
variable {N : List Str} {sc : Scope} {pos : Pos} {a b d e : Expr} {fa fb fd : RE D}
theorem two {p : PrW} {K : PySem.W.Frag} {g : D → D → Option D} {σ : L2.St} {H : Hp} {Q : VK} (h : tE p K (fun ρ => (fa ρ).bind fun x => (fb ρ).bind fun y => g x y) σ H Q) : tOp (rD p K g) (tE p K fa) (tE p K fb) σ H Q := by
  obtain ⟨ρ, r, E, hf, q⟩ := h
  obtain ⟨x, e1, hf⟩ := bnd hf
  obtain ⟨y, e2, hf⟩ := bnd hf
  exact ⟨ρ, x, E, e1, fun v H1 s1 r1 => ⟨ρ, y, E.same s1, e2, fun u H2 s2 r2 => ⟨x, y, r, Rp.keep s2.kp _ _ r1, r2, hf, fun w H3 s3 r3 => q w H3 ((s1.trans s2).trans s3) r3⟩⟩⟩
theorem twoC {p : PrW} {K : PySem.W.Frag} {g : D → D → Option Bool} {σ : L2.St} {H : Hp} {Q : VK} (h : tE p K (fun ρ => (fa ρ).bind fun x => (fb ρ).bind fun y => (g x y).map PyData.bool) σ H Q) : tOp (rC p K g) (tE p K fa) (tE p K fb) σ H Q := by
  obtain ⟨ρ, r, E, hf, q⟩ := h
  obtain ⟨x, e1, hf⟩ := bnd hf
  obtain ⟨y, e2, hf⟩ := bnd hf
  obtain ⟨c, e3, e4⟩ := mpd hf
  subst e4
  exact ⟨ρ, x, E, e1, fun v H1 s1 r1 => ⟨ρ, y, E.same s1, e2, fun u H2 s2 r2 => ⟨x, y, c, Rp.keep s2.kp _ _ r1, r2, e3, q _ _ (s1.trans s2) (rpBool.mpr rfl)⟩⟩⟩
/-- a test is a value's truth -/
theorem test_of {p : PrW} {K : PySem.W.Frag} {f : RE D} {σ : L2.St} {H : Hp} {Q : Bool → Hp → Prop} (h : tT p K (fun ρ => asB (f ρ)) σ H Q) : tE p K f σ H fun x H1 => ∃ k, x = .bl k ∧ Q k H1 := by
  obtain ⟨ρ, b, E, hf, q⟩ := h
  exact ⟨ρ, _, E, asB_some hf, fun v H' s r => ⟨b, rpBool.mp r, q H' s⟩⟩
theorem rt_val {f : RE D} (h : PE X e (tE (pX X C) X.K f)) (he : ∀ whole, isTrue e X.env whole = (do let v ← whole; standAt e.pos; holding [v] (truthy v))) : PT X e (tT (pX X C) X.K fun ρ => asB (f ρ)) :=
  PTwk (pt_val h he) fun σ H Q q => test_of q
theorem re_op (c : Ctx X C) {o : Op2} (ha : PE X a (tE (pX X C) X.K fa)) (hb : PE X b (tE (pX X C) X.K fb)) : PE X (.BinOp a (opPy o) b pos) (tE (pX X C) X.K fun ρ => (fa ρ).bind fun x => (fb ρ).bind fun y => opD o x y) :=
  PEwk (pe_op (op2 c o) ha hb) fun σ H Q h => two h
theorem re_cmp (c : Ctx X C) (tk : TOk (pX X C) T) {o : Cp} (ha : PE X a (tE (pX X C) X.K fa)) (hb : PE X b (tE (pX X C) X.K fb)) (hm : behindInMarks (cmpPy o) b = false) :
    PE X (.Compare a [cmpPy o] [b] pos) (tE (pX X C) X.K fun ρ => (fa ρ).bind fun x => (fb ρ).bind fun y => (cmpD T o x y).map PyData.bool) :=
  PEwk (pe_cmpR (cmp2 c tk o) ha hb hm) fun σ H Q h => twoC h
theorem rt_cmp (c : Ctx X C) (tk : TOk (pX X C) T) {o : Cp} (ha : PE X a (tE (pX X C) X.K fa)) (hb : PE X b (tE (pX X C) X.K fb)) (hm : behindInMarks (cmpPy o) b = false) :
    PT X (.Compare a [cmpPy o] [b] pos) (tT (pX X C) X.K fun ρ => asB ((fa ρ).bind fun x => (fb ρ).bind fun y => (cmpD T o x y).map PyData.bool)) :=
  PTwk (pt_cmpR (cmp2 c tk o) ha hb hm) fun σ H Q h => twoC (test_of h)
theorem three {p : PrW} {K : PySem.W.Frag} {g1 g2 : D → D → Option Bool} {σ : L2.St} {H : Hp} {Q : VK} (h : tE p K (fun ρ => (fa ρ).bind fun x => (fb ρ).bind fun y => (g1 x y).bind fun r => if r = true then (fd ρ).bind fun z => (g2 y z).map PyData.bool else some (.bool false)) σ H Q) :
    tChain (rC p K g1) (rC p K g2) (tE p K fa) (tE p K fb) (tE p K fd) σ H Q := by
  obtain ⟨ρ, r, E, hf, q⟩ := h
  obtain ⟨x, e1, hf⟩ := bnd hf
  obtain ⟨y, e2, hf⟩ := bnd hf
  obtain ⟨c, e3, hf⟩ := bnd hf
  refine ⟨ρ, x, E, e1, fun v H1 s1 r1 => ⟨ρ, y, E.same s1, e2, fun u H2 s2 r2 => ⟨x, y, c, Rp.keep s2.kp _ _ r1, r2, e3, c, rfl, ?_⟩⟩⟩
  cases c with
  | false =>
    cases hf
    exact q _ _ (s1.trans s2) (rpBool.mpr rfl)
  | true =>
    obtain ⟨z, e4, hf⟩ := bnd hf
    obtain ⟨k, e5, e6⟩ := mpd hf
    subst e6
    exact ⟨ρ, z, E.same (s1.trans s2), e4, fun w H3 s3 r3 => ⟨y, z, k, Rp.keep s3.kp _ _ r2, r3, e5, q _ _ ((s1.trans s2).trans s3) (rpBool.mpr rfl)⟩⟩
theorem re_chain (c : Ctx X C) (tk : TOk (pX X C) T) {o o' : Cp} (ha : PE X a (tE (pX X C) X.K fa)) (hb : PE X b (tE (pX X C) X.K fb)) (hd : PE X d (tE (pX X C) X.K fd)) (hm : lastMarks [cmpPy o, cmpPy o'] [b, d] = false) :
    PE X (.Compare a [cmpPy o, cmpPy o'] [b, d] pos) (tE (pX X C) X.K fun ρ => (fa ρ).bind fun x => (fb ρ).bind fun y => (cmpD T o x y).bind fun r => if r = true then (fd ρ).bind fun z => (cmpD T o' y z).map PyData.bool else some (.bool false)) :=
  PEwk (pe_chain (cmp2 c tk o) (cmp2 c tk o') ha hb hd hm) fun σ H Q h => three h
theorem rt_chain (c : Ctx X C) (tk : TOk (pX X C) T) {o o' : Cp} (ha : PE X a (tE (pX X C) X.K fa)) (hb : PE X b (tE (pX X C) X.K fb)) (hd : PE X d (tE (pX X C) X.K fd)) (hm : lastMarks [cmpPy o, cmpPy o'] [b, d] = false) :
    PT X (.Compare a [cmpPy o, cmpPy o'] [b, d] pos) (tT (pX X C) X.K fun ρ => asB ((fa ρ).bind fun x => (fb ρ).bind fun y => (cmpD T o x y).bind fun r => if r = true then (fd ρ).bind fun z => (cmpD T o' y z).map PyData.bool else some (.bool false))) :=
  PTwk (pt_chain (cmp2 c tk o) (cmp2 c tk o') ha hb hd hm) fun σ H Q h => three (test_of h)
/-! chains of three -/
def tChain3 (r1 r2 r3 : R2) (ta tb tc td : TE) : TE := fun σ H Q => ta σ H fun x H1 => tb σ H1 fun y H2 => r1 x y H2 fun z H3 => ∃ k, z = .bl k ∧ (if k = true then tc σ H3 fun w H4 => r2 y w H4 fun z2 H5 => ∃ k2, z2 = .bl k2 ∧ (if k2 = true then td σ H5 fun u H6 => r3 w u H6 Q else Q (.bl false) H5) else Q (.bl false) H3)
theorem pe_chain3 {op op' op'' : CmpOp} {r r' r'' : R2} {ta tb tc td : TE} {e4 : Expr} (ho : OpR X (compareOp op) r) (ho' : OpR X (compareOp op') r') (ho'' : OpR X (compareOp op'') r'') (ha : PE X a ta) (hb : PE X b tb) (hc : PE X d tc) (hd : PE X e4 td)
    (hm : lastMarks [op, op', op''] [b, d, e4] = false) : PE X (.Compare a [op, op', op''] [b, d, e4] pos) (tChain3 r r' r'' ta tb tc td) := by
  refine ⟨fun pins s σ H Q I h => ?_⟩
  refine Compare_chain (thn (ha.run pins s σ H _ I h) fun v s1 ⟨x, H1, I1, r1, q1⟩ => chain_link (thn (hb.run pins s1 σ H1 _ I1 q1) fun u s2 ⟨y, H2, I2, r2, q2⟩ =>
    thn (ho pins s2 σ H2 x y v u _ I2 r1 r2 q2) fun d s3 ⟨z, H3, I3, r3, k, e, q3⟩ => ?_)) hm
  subst e
  cases r3
  refine wpAny_truthy_bool ?_
  cases k with
  | false => exact ite_ff ⟨.bl false, H3, I3, rfl, q3⟩
  | true =>
    refine ite_tt (chain_link (thn (hc.run pins s3 σ H3 _ I3 q3) fun w' s4 ⟨z', H4, I4, r4, q4⟩ => thn (ho' pins s4 σ H4 y z' u w' _ I4 r2 r4 q4) fun d' s5 ⟨z2, H5, I5, r5, k2, e2, q5⟩ => ?_))
    subst e2
    cases r5
    refine wpAny_truthy_bool ?_
    cases k2 with
    | false => exact ite_ff ⟨.bl false, H5, I5, rfl, q5⟩
    | true => exact ite_tt (chain_last (thn (hd.run pins s5 σ H5 _ I5 q5) fun w2 s6 ⟨z6, H6, I6, r6, q6⟩ => ho'' pins s6 σ H6 z' z6 w' w2 Q I6 r4 r6 q6))
theorem three3 {p : PrW} {K : PySem.W.Frag} {g1 g2 g3 : D → D → Option Bool} {fe : RE D} {σ : L2.St} {H : Hp} {Q : VK} (h : tE p K (fun ρ => (fa ρ).bind fun x => (fb ρ).bind fun y => (g1 x y).bind fun r => if r = true then (fd ρ).bind fun z => (g2 y z).bind fun q => if q = true then (fe ρ).bind fun w => (g3 z w).map PyData.bool else some (.bool false) else some (.bool false)) σ H Q) :
    tChain3 (rC p K g1) (rC p K g2) (rC p K g3) (tE p K fa) (tE p K fb) (tE p K fd) (tE p K fe) σ H Q := by
  obtain ⟨ρ, r, E, hf, q⟩ := h
  obtain ⟨x, e1, hf⟩ := bnd hf
  obtain ⟨y, e2, hf⟩ := bnd hf
  obtain ⟨c, e3, hf⟩ := bnd hf
  refine ⟨ρ, x, E, e1, fun v H1 s1 r1 => ⟨ρ, y, E.same s1, e2, fun u H2 s2 r2 => ⟨x, y, c, Rp.keep s2.kp _ _ r1, r2, e3, c, rfl, ?_⟩⟩⟩
  cases c with
  | false =>
    cases hf
    exact q _ _ (s1.trans s2) (rpBool.mpr rfl)
  | true =>
    obtain ⟨z, e4, hf⟩ := bnd hf
    obtain ⟨k, e5, hf⟩ := bnd hf
    refine ⟨ρ, z, E.same (s1.trans s2), e4, fun w H3 s3 r3 => ⟨y, z, k, Rp.keep s3.kp _ _ r2, r3, e5, k, rfl, ?_⟩⟩
    cases k with
    | false =>
      cases hf
      exact q _ _ ((s1.trans s2).trans s3) (rpBool.mpr rfl)
    | true =>
      obtain ⟨t, e6, hf⟩ := bnd hf
      obtain ⟨j, e7, e8⟩ := mpd hf
      subst e8
      exact ⟨ρ, t, E.same ((s1.trans s2).trans s3), e6, fun w2 H4 s4 r4 => ⟨z, t, j, Rp.keep s4.kp _ _ r3, r4, e7, q _ _ (((s1.trans s2).trans s3).trans s4) (rpBool.mpr rfl)⟩⟩
theorem pt_chain3 {op op' op'' : CmpOp} {r r' r'' : R2} {ta tb tc td : TE} {e4 : Expr} (ho : OpR X (compareOp op) r) (ho' : OpR X (compareOp op') r') (ho'' : OpR X (compareOp op'') r'') (ha : PE X a ta) (hb : PE X b tb) (hc : PE X d tc) (hd : PE X e4 td)
    (hm : lastMarks [op, op', op''] [b, d, e4] = false) : PT X (.Compare a [op, op', op''] [b, d, e4] pos) (tTest (tChain3 r r' r'' ta tb tc td)) := by
  refine ⟨fun pins s σ H Q I h => ?_⟩
  refine isTrue_chain (thn (ha.run pins s σ H _ I h) fun v s1 ⟨x, H1, I1, r1, q1⟩ => test_link (thn (hb.run pins s1 σ H1 _ I1 q1) fun u s2 ⟨y, H2, I2, r2, q2⟩ =>
    thn (ho pins s2 σ H2 x y v u _ I2 r1 r2 q2) fun d s3 ⟨z, H3, I3, r3, k, e, q3⟩ => ?_)) hm
  subst e
  cases r3
  refine wpAny_truthy_bool ?_
  cases k with
  | false =>
    obtain ⟨k', e', q'⟩ := q3
    cases e'
    exact ite_ff ⟨H3, I3, q'⟩
  | true =>
    refine ite_tt (test_link (thn (hc.run pins s3 σ H3 _ I3 q3) fun w' s4 ⟨z', H4, I4, r4, q4⟩ => thn (ho' pins s4 σ H4 y z' u w' _ I4 r2 r4 q4) fun d' s5 ⟨z2, H5, I5, r5, k2, e2, q5⟩ => ?_))
    subst e2
    cases r5
    refine wpAny_truthy_bool ?_
    cases k2 with
    | false =>
      obtain ⟨k', e', q'⟩ := q5
      cases e'
      exact ite_ff ⟨H5, I5, q'⟩
    | true =>
      refine ite_tt (test_last (thn (hd.run pins s5 σ H5 _ I5 q5) fun w2 s6 ⟨z6, H6, I6, r6, q6⟩ => thn (ho'' pins s6 σ H6 z' z6 w' w2 _ I6 r4 r6 q6) fun d2 s7 ⟨z7, H7, I7, r7, k3, e3, q7⟩ => ?_))
      subst e3
      cases r7
      exact wpAny_truthy_bool ⟨H7, I7, q7⟩
theorem rt_chain3 (c : Ctx X C) (tk : TOk (pX X C) T) {o o' o'' : Cp} {e4 : Expr} {fe : RE D} (ha : PE X a (tE (pX X C) X.K fa)) (hb : PE X b (tE (pX X C) X.K fb)) (hd : PE X d (tE (pX X C) X.K fd)) (he : PE X e4 (tE (pX X C) X.K fe)) (hm : lastMarks [cmpPy o, cmpPy o', cmpPy o''] [b, d, e4] = false) :
    PT X (.Compare a [cmpPy o, cmpPy o', cmpPy o''] [b, d, e4] pos) (tT (pX X C) X.K fun ρ => asB ((fa ρ).bind fun x => (fb ρ).bind fun y => (cmpD T o x y).bind fun r => if r = true then (fd ρ).bind fun z => (cmpD T o' y z).bind fun q => if q = true then (fe ρ).bind fun w => (cmpD T o'' z w).map PyData.bool else some (.bool false) else some (.bool false))) :=
  PTwk (pt_chain3 (cmp2 c tk o) (cmp2 c tk o') (cmp2 c tk o'') ha hb hd he hm) fun σ H Q h => three3 (test_of h)
theorem re_chain3 (c : Ctx X C) (tk : TOk (pX X C) T) {o o' o'' : Cp} {e4 : Expr} {fe : RE D} (ha : PE X a (tE (pX X C) X.K fa)) (hb : PE X b (tE (pX X C) X.K fb)) (hd : PE X d (tE (pX X C) X.K fd)) (he : PE X e4 (tE (pX X C) X.K fe)) (hm : lastMarks [cmpPy o, cmpPy o', cmpPy o''] [b, d, e4] = false) :
    PE X (.Compare a [cmpPy o, cmpPy o', cmpPy o''] [b, d, e4] pos) (tE (pX X C) X.K fun ρ => (fa ρ).bind fun x => (fb ρ).bind fun y => (cmpD T o x y).bind fun r => if r = true then (fd ρ).bind fun z => (cmpD T o' y z).bind fun q => if q = true then (fe ρ).bind fun w => (cmpD T o'' z w).map PyData.bool else some (.bool false) else some (.bool false)) :=
  PEwk (pe_chain3 (cmp2 c tk o) (cmp2 c tk o') (cmp2 c tk o'') ha hb hd he hm) fun σ H Q h => three3 h
/-! is None -/
theorem rp_none {p : PrW} {K : PySem.W.Frag} {H : Hp} {x : D} {v : V} (h : Rp p K H x v) : decide (v = .non) = isNo x := by
  cases x <;> simp only [Rp] at h
  · subst h; rfl
  · subst h; rfl
  · subst h; rfl
  · subst h; rfl
  · obtain ⟨_, _, e, _⟩ := h; subst e; rfl
  · obtain ⟨_, _, e, _⟩ := h; subst e; rfl
  · obtain ⟨_, e, _⟩ := h; subst e; rfl
theorem isn1 {p : PrW} {K : PySem.W.Frag} {σ : L2.St} {H : Hp} {Q : VK} (h : tE p K (fun ρ => (fa ρ).map fun x => .bool (isNo x)) σ H Q) : tIsN (tE p K fa) σ H Q := by
  obtain ⟨ρ, r, E, hf, q⟩ := h
  obtain ⟨x, e1, e2⟩ := mpd hf
  subst e2
  exact ⟨ρ, x, E, e1, fun v H1 s1 r1 => by simp only [rp_none r1]; exact q _ _ s1 (rpBool.mpr rfl)⟩
theorem isn2 {p : PrW} {K : PySem.W.Frag} {σ : L2.St} {H : Hp} {Q : VK} (h : tE p K (fun ρ => (fa ρ).map fun x => .bool (!isNo x)) σ H Q) : tNotN (tE p K fa) σ H Q := by
  obtain ⟨ρ, r, E, hf, q⟩ := h
  obtain ⟨x, e1, e2⟩ := mpd hf
  subst e2
  exact ⟨ρ, x, E, e1, fun v H1 s1 r1 => by simp only [rp_none r1]; exact q _ _ s1 (rpBool.mpr rfl)⟩
theorem re_isN {j pos'} (ha : PE X a (tE (pX X C) X.K fa)) : PE X (.Compare a [.Is] [.Constant .none j pos'] pos) (tE (pX X C) X.K fun ρ => (fa ρ).map fun x => .bool (isNo x)) := PEwk (pe_cmp (pc_isN ha)) fun σ H Q h => isn1 h
theorem rt_isN {j pos'} (ha : PE X a (tE (pX X C) X.K fa)) : PT X (.Compare a [.Is] [.Constant .none j pos'] pos) (tT (pX X C) X.K fun ρ => asB ((fa ρ).map fun x => .bool (isNo x))) := PTwk (pt_cmp (pc_isN ha)) fun σ H Q h => isn1 (test_of h)
theorem re_notN {j pos'} (ha : PE X a (tE (pX X C) X.K fa)) : PE X (.Compare a [.IsNot] [.Constant .none j pos'] pos) (tE (pX X C) X.K fun ρ => (fa ρ).map fun x => .bool (!isNo x)) := PEwk (pe_cmp (pc_notN ha)) fun σ H Q h => isn2 h
theorem rt_notN {j pos'} (ha : PE X a (tE (pX X C) X.K fa)) : PT X (.Compare a [.IsNot] [.Constant .none j pos'] pos) (tT (pX X C) X.K fun ρ => asB ((fa ρ).map fun x => .bool (!isNo x))) := PTwk (pt_cmp (pc_notN ha)) fun σ H Q h => isn2 (test_of h)
/-! and, or, not, if -/
variable {rest : List Expr}
abbrev fAnd (fa fb : RE D) : RE D := fun ρ => (asB (fa ρ)).bind fun x => if x = true then (asB (fb ρ)).map PyData.bool else some (.bool false)
abbrev fOr (fa fb : RE D) : RE D := fun ρ => (asB (fa ρ)).bind fun x => if x = true then some (.bool true) else (asB (fb ρ)).map PyData.bool
theorem re_and (ha : PE X a (tE (pX X C) X.K fa)) (hb : PE X (.BoolOp .And (b :: rest) pos) (tE (pX X C) X.K fb)) : PE X (.BoolOp .And (a :: b :: rest) pos) (tE (pX X C) X.K (fAnd fa fb)) := by
  refine PEwk (pe_and ha hb) fun σ H Q ⟨ρ, r, E, hf, q⟩ => ?_
  obtain ⟨x, e1, hf⟩ := bnd hf
  refine ⟨ρ, _, E, asB_some e1, fun v H1 s1 r1 => ⟨x, rpBool.mp r1, ?_⟩⟩
  cases x with
  | false => cases hf; exact q _ _ s1 (rpBool.mpr rfl)
  | true =>
    obtain ⟨y, e2, e3⟩ := mpd hf
    subst e3
    exact ⟨ρ, _, E.same s1, asB_some e2, fun u H2 s2 r2 => q _ _ (s1.trans s2) r2⟩
theorem re_or (ha : PE X a (tE (pX X C) X.K fa)) (hb : PE X (.BoolOp .Or (b :: rest) pos) (tE (pX X C) X.K fb)) : PE X (.BoolOp .Or (a :: b :: rest) pos) (tE (pX X C) X.K (fOr fa fb)) := by
  refine PEwk (pe_or ha hb) fun σ H Q ⟨ρ, r, E, hf, q⟩ => ?_
  obtain ⟨x, e1, hf⟩ := bnd hf
  refine ⟨ρ, _, E, asB_some e1, fun v H1 s1 r1 => ⟨x, rpBool.mp r1, ?_⟩⟩
  cases x with
  | true => cases hf; exact q _ _ s1 (rpBool.mpr rfl)
  | false =>
    obtain ⟨y, e2, e3⟩ := mpd hf
    subst e3
    exact ⟨ρ, _, E.same s1, asB_some e2, fun u H2 s2 r2 => q _ _ (s1.trans s2) r2⟩
theorem PTw {op : BoolOp} {vs : List Expr} {t : TT} (h : PT X (.BoolOp op vs pos) t) : L2.PW X (.BoolOp op vs pos) t := ⟨fun whole pins s σ H Q I q => h.run pins s σ H Q I q⟩
theorem rt_and (ha : PT X a (tT (pX X C) X.K fun ρ => asB (fa ρ))) (hb : PT X (.BoolOp .And (b :: rest) pos) (tT (pX X C) X.K fun ρ => asB (fb ρ))) : PT X (.BoolOp .And (a :: b :: rest) pos) (tT (pX X C) X.K fun ρ => asB (fAnd fa fb ρ)) := by
  refine PTwk (pw_and ha (PTw hb)).pt fun σ H Q ⟨ρ, r, E, hf, q⟩ => ?_
  have hf := asB_some hf
  obtain ⟨x, e1, hf⟩ := bnd hf
  refine ⟨ρ, x, E, e1, fun H1 s1 => ?_⟩
  cases x with
  | false => cases hf; exact q _ s1
  | true =>
    obtain ⟨y, e2, e3⟩ := mpd hf
    cases e3
    exact ⟨ρ, r, E.same s1, e2, fun H2 s2 => q _ (s1.trans s2)⟩
theorem rt_or (ha : PT X a (tT (pX X C) X.K fun ρ => asB (fa ρ))) (hb : PT X (.BoolOp .Or (b :: rest) pos) (tT (pX X C) X.K fun ρ => asB (fb ρ))) : PT X (.BoolOp .Or (a :: b :: rest) pos) (tT (pX X C) X.K fun ρ => asB (fOr fa fb ρ)) := by
  refine PTwk (pw_or ha (PTw hb)).pt fun σ H Q ⟨ρ, r, E, hf, q⟩ => ?_
  have hf := asB_some hf
  obtain ⟨x, e1, hf⟩ := bnd hf
  refine ⟨ρ, x, E, e1, fun H1 s1 => ?_⟩
  cases x with
  | true => cases hf; exact q _ s1
  | false =>
    obtain ⟨y, e2, e3⟩ := mpd hf
    cases e3
    exact ⟨ρ, r, E.same s1, e2, fun H2 s2 => q _ (s1.trans s2)⟩
abbrev fNot (fa : RE D) : RE D := fun ρ => (asB (fa ρ)).map fun x => .bool (!x)
theorem re_not (ha : PE X a (tE (pX X C) X.K fa)) : PE X (.UnaryOp .Not a pos) (tE (pX X C) X.K (fNot fa)) := by
  refine PEwk (pe_not ha) fun σ H Q ⟨ρ, r, E, hf, q⟩ => ?_
  obtain ⟨x, e1, e2⟩ := mpd hf
  subst e2
  exact ⟨ρ, _, E, asB_some e1, fun v H1 s1 r1 => ⟨x, rpBool.mp r1, q _ _ s1 (rpBool.mpr rfl)⟩⟩
theorem rt_not (ha : PT X a (tT (pX X C) X.K fun ρ => asB (fa ρ))) : PT X (.UnaryOp .Not a pos) (tT (pX X C) X.K fun ρ => asB (fNot fa ρ)) := by
  refine PTwk (pt_not ha) fun σ H Q ⟨ρ, r, E, hf, q⟩ => ?_
  obtain ⟨x, e1, e2⟩ := mpd (asB_some hf)
  cases e2
  exact ⟨ρ, x, E, e1, fun H1 s1 => q _ s1⟩
abbrev fIte (fc fa fb : RE D) : RE D := fun ρ => (asB (fc ρ)).bind fun x => if x = true then fa ρ else fb ρ
theorem re_ite {c : Expr} {fc : RE D} (hc : PT X c (tT (pX X C) X.K fun ρ => asB (fc ρ))) (ha : PE X a (tE (pX X C) X.K fa)) (hb : PE X b (tE (pX X C) X.K fb)) : PE X (.IfExp c a b pos) (tE (pX X C) X.K (fIte fc fa fb)) := by
  refine PEwk (pe_ifExp hc ha hb) fun σ H Q ⟨ρ, r, E, hf, q⟩ => ?_
  obtain ⟨x, e1, hf⟩ := bnd hf
  refine ⟨ρ, x, E, e1, fun H1 s1 => ?_⟩
  cases x with
  | true => exact ⟨ρ, r, E.same s1, hf, fun v H2 s2 r2 => q _ _ (s1.trans s2) r2⟩
  | false => exact ⟨ρ, r, E.same s1, hf, fun v H2 s2 r2 => q _ _ (s1.trans s2) r2⟩
theorem isT_ite {c : Expr} {fc : RE D} (hc : PT X c (tT (pX X C) X.K fun ρ => asB (fc ρ))) (ha : PT X a (tT (pX X C) X.K fun ρ => asB (fa ρ))) (hb : PT X b (tT (pX X C) X.K fun ρ => asB (fb ρ))) : PT X (.IfExp c a b pos) (tT (pX X C) X.K fun ρ => asB (fIte fc fa fb ρ)) := by
  refine ⟨fun pins s σ H Q I ⟨ρ, r, E, hf, q⟩ => ?_⟩
  have hf := asB_some hf
  obtain ⟨x, e1, hf⟩ := bnd hf
  show wpAny _ _ (do if ← isTrue c X.env (eval c X.env) then isTrue a X.env (eval a X.env) else isTrue b X.env (eval b X.env)) _ _ _
  refine wpAny_bind (thn (hc.run pins s σ H (fun y H1 => y = x ∧ Same H H1) I ⟨ρ, x, E, e1, fun H1 s1 => ⟨rfl, s1⟩⟩) fun y s1 ⟨H1, I1, ey, sm⟩ => ?_)
  subst ey
  cases y with
  | true => exact ha.run pins s1 σ H1 Q I1 ⟨ρ, r, E.same sm, (show asB (fa ρ) = some r by rw [show fa ρ = some (.bool r) from hf]; rfl), fun H2 s2 => q _ (sm.trans s2)⟩
  | false => exact hb.run pins s1 σ H1 Q I1 ⟨ρ, r, E.same sm, (show asB (fb ρ) = some r by rw [show fb ρ = some (.bool r) from hf]; rfl), fun H2 s2 => q _ (sm.trans s2)⟩
theorem rt_ite {c : Expr} {fc : RE D} (hc : PT X c (tT (pX X C) X.K fun ρ => asB (fc ρ))) (ha : PT X a (tT (pX X C) X.K fun ρ => asB (fa ρ))) (hb : PT X b (tT (pX X C) X.K fun ρ => asB (fb ρ))) : PT X (.IfExp c a b pos) (tT (pX X C) X.K fun ρ => asB (fIte fc fa fb ρ)) := isT_ite hc ha hb
/-! numbers, names, constants -/
theorem re_neg (ha : PE X a (tE (pX X C) X.K fa)) : PE X (.UnaryOp .USub a pos) (tE (pX X C) X.K fun ρ => (asI (fa ρ)).map fun z => .int (-z)) := by
  refine PEwk (pe_un un_neg ha) fun σ H Q ⟨ρ, r, E, hf, q⟩ => ?_
  obtain ⟨x, e1, e2⟩ := mpd hf
  subst e2
  exact ⟨ρ, _, E, asI_some e1, fun v H1 s1 r1 => ⟨x, rpInt.mp r1, q _ _ s1 (rpInt.mpr rfl)⟩⟩
theorem re_var {i : Nat} {x : Str} (hN : X.N[i]? = some x) (hv : Vis X.env.scope x) (hd : (x == ("__debug__" : Str)) = false) (hcd : (x == ("__classdict__" : Str)) = false) : PE X (.Name x pos) (tE (pX X C) X.K fun ρ => ρ.get i) := by
  refine PEwk (pe_var hN hv hd hcd) fun σ H Q ⟨ρ, r, E, hf, q⟩ => ?_
  obtain ⟨v, e1, r1⟩ := E.get hf
  exact ⟨v, e1, q v H (Same.refl H) r1⟩
theorem re_cst {x : Str} {v : V} {u : Value} {k : D} (hg : Gl X x) (hm : X.mg x = some u) (r : RelV v u) (hk : ∀ H, Rp (pX X C) X.K H k v) (hd : (x == ("__debug__" : Str)) = false) : PE X (.Name x pos) (tE (pX X C) X.K fun _ => some k) :=
  PEwk (pe_glob hg hm r hd) fun σ H Q ⟨ρ, d, E, hf, q⟩ => by cases hf; exact q v H (Same.refl H) (hk H)
theorem re_cV {k : D} {v : V} {e : Expr} (h : PE X e (tC v)) (hk : ∀ H, Rp (pX X C) X.K H k v) : PE X e (tE (pX X C) X.K fun _ => some k) :=
  PEwk h fun σ H Q ⟨ρ, d, E, hf, q⟩ => by cases hf; exact q v H (Same.refl H) (hk H)
/-! arguments, calls, tuples, lists -/
variable {es : List Expr} {fs : RE (List D)}
theorem ra_nil : PA X [] (tA (pX X C) X.K fun _ => some []) := PAwk pa_nil fun σ H Q ⟨ρ, ds, E, hf, q⟩ => by cases hf; exact q [] H (Same.refl H) .nil
theorem ra_cons (ha : PE X e (tE (pX X C) X.K fa)) (hs : PA X es (tA (pX X C) X.K fs)) (hst : starEach (e :: es) X.env = (false, eval e X.env) :: starEach es X.env) : PA X (e :: es) (tA (pX X C) X.K fun ρ => (fa ρ).bind fun x => (fs ρ).map (x :: ·)) := by
  refine PAwk (pa_cons ha hs hst) fun σ H Q ⟨ρ, ds, E, hf, q⟩ => ?_
  obtain ⟨x, e1, hf⟩ := bnd hf
  obtain ⟨xs, e2, e3⟩ := mpd hf
  subst e3
  exact ⟨ρ, x, E, e1, fun v H1 s1 r1 => ⟨ρ, xs, E.same s1, e2, fun vs H2 s2 r2 => q _ _ (s1.trans s2) (.cons (Rp.keep s2.kp _ _ r1) r2)⟩⟩
theorem re_bi {x : Str} {p : Pos} {f : Bi} (c : Ctx X C) (hg : Gl X x) (hm : X.mg x = none) (hv : bootBuiltins x = some (biVal f)) (ha : PA X (e :: es) (tA (pX X C) X.K fs)) (hn : x ≠ "__name__") (hdb : (x == ("__debug__" : Str)) = false)
    (he : starEach (e :: es) X.env = (false, eval e X.env) :: starEach es X.env) (hpl : (backTo pos (starEach es X.env)).any (·.1) = false) : PE X (.Call (.Name x p) (e :: es) [] pos) (tE (pX X C) X.K fun ρ => (fs ρ).bind (biD T f)) := by
  have w : ∀ σ H Q, tE (pX X C) X.K (fun ρ => (fs ρ).bind (biD T f)) σ H Q → tCB (rDs (pX X C) X.K (biD T f)) (tA (pX X C) X.K fs) σ H Q := fun σ H Q ⟨ρ, r, E, hf, q⟩ => by
    obtain ⟨ds, e1, e2⟩ := bnd hf
    exact ⟨ρ, ds, E, e1, fun vs H1 s1 r1 => ⟨ds, r, r1, e2, fun v H2 s2 r2 => q v H2 (s1.trans s2) r2⟩⟩
  have h := bi2 (T := T) c f
  revert hv h
  cases f <;> intro hv h <;> first | exact PEwk (pe_callB h hg hm hv ha hn hdb he hpl) w | exact PEwk (pe_callTy h hg hm hv ha hn hdb he hpl) w
theorem re_bim {x : Str} {p : Pos} {f : Bi} {id : String} (c : Ctx X C) (hg : Gl X x) (hf : biVal f = .builtin id) (hm : X.mg x = some (biVal f)) (ha : PA X (e :: es) (tA (pX X C) X.K fs)) (hdb : (x == ("__debug__" : Str)) = false)
    (he : starEach (e :: es) X.env = (false, eval e X.env) :: starEach es X.env) (hpl : (backTo pos (starEach es X.env)).any (·.1) = false) : PE X (.Call (.Name x p) (e :: es) [] pos) (tE (pX X C) X.K fun ρ => (fs ρ).bind (biD T f)) := by
  have h := bi2 (T := T) c f
  rw [hf] at h hm
  refine PEwk (pe_callBfun h hg hm ha hdb he hpl) fun σ H Q ⟨ρ, r, E, hf, q⟩ => ?_
  obtain ⟨ds, e1, e2⟩ := bnd hf
  exact ⟨ρ, ds, E, e1, fun vs H1 s1 r1 => ⟨ds, r, r1, e2, fun v H2 s2 r2 => q v H2 (s1.trans s2) r2⟩⟩
theorem re_isi {p p2 : Pos} {t : String} {ty : Str} (c : Ctx X C) (hg : Gl X "isinstance") (hm : X.mg "isinstance" = none) (hg2 : Gl X ty) (hm2 : X.mg ty = none) (hv2 : bootBuiltins ty = some (.type t)) (hn2 : ty ≠ "__name__") (hd2 : (ty == ("__debug__" : Str)) = false) (ha : PE X a (tE (pX X C) X.K fa))
    (he : starEach [a, .Name ty p2] X.env = (false, eval a X.env) :: starEach [.Name ty p2] X.env) : PE X (.Call (.Name "isinstance" p) [a, .Name ty p2] [] pos) (tE (pX X C) X.K fun ρ => (fa ρ).bind fun x => (isiD t x).map PyData.bool) := by
  have hc : CallR X (.builtin "isinstance") (fun xs H Q => ∃ d b v, xs = [v, .ty t] ∧ Rp (pX X C) X.K H d v ∧ isiD t d = some b ∧ Q (.bl b) H) := by
    intro pins s σ H xs us Q I r ⟨d, b, v, ex, hd, e1, q⟩
    subst ex
    obtain ⟨u1, u2, eu, r1, r2⟩ := vals2 r
    subst eu
    cases (show u2 = Value.type t from r2)
    exact isi2 c I r1 hd e1 q
  refine PEwk (pe_callB hc hg hm (by rfl) (pa_cons ha (pa_cons (pe_bltn (v := .ty t) hg2 hm2 hv2 rfl hn2 hd2) pa_nil) he) (by decide) (by decide) he) fun σ H Q ⟨ρ, r, E, hf, q⟩ => ?_
  obtain ⟨x, e1, hf⟩ := bnd hf
  obtain ⟨b, e2, e3⟩ := mpd hf
  subst e3
  exact ⟨ρ, x, E, e1, fun v H1 s1 r1 => ⟨x, b, v, rfl, r1, e2, q _ _ s1 (rpBool.mpr rfl)⟩⟩
theorem re_tup {x1 : Nat} (ha : PA X es (tA (pX X C) X.K fs)) (hz : es.length ≤ 1000) (hl : ∀ ρ ds, fs ρ = some ds → ds.length = es.length) : PE X (.Tuple es x1 pos) (tE (pX X C) X.K fun ρ => (fs ρ).map PyData.tuple) := by
  refine PEwk (pe_tupK ha) fun σ H Q ⟨ρ, r, E, hf, q⟩ => ?_
  obtain ⟨ds, e1, e2⟩ := mpd hf
  subst e2
  refine ⟨ρ, ds, E, e1, fun vs H1 s1 r1 => ⟨by rw [r1.len, hl ρ ds e1, sizeLine_eq]; omega, flatK ds, Give.tup (fun v H2 s2 r2 => q v H2 (s1.trans s2) r2) r1⟩⟩
theorem re_lst (ha : PA X es (tA (pX X C) X.K fs)) (hz : es.length ≤ 1000) (hl : ∀ ρ ds, fs ρ = some ds → ds.length = es.length) : PE X (.List es pos) (tE (pX X C) X.K fun ρ => (fs ρ).map PyData.list) := by
  refine ⟨fun pins s σ H Q I ⟨ρ, r, E, hf, q⟩ => ?_⟩
  obtain ⟨ds, e1, e2⟩ := mpd hf
  subst e2
  refine thn ((pe_lst ha).run pins s σ H (fun v H' => ∃ p o, v = .ref p ∧ H' p = some o ∧ Mut (some o) ∧ ∀ od, Q v (upd H' p (.frz od o))) I ⟨ρ, ds, E, e1, fun vs H1 s1 r1 => ⟨by rw [r1.len, hl ρ ds e1, sizeLine_eq]; omega, fun p hp => ⟨p, .lst vs, rfl, upd_same, True.intro, fun od => ?_⟩⟩⟩) fun u s' h => EPseal h
  rw [upd_upd]
  exact Give.lst (fun v H2 s2 r2 => q v H2 (s1.trans s2) r2) r1 p od hp
end
end PL


set_option Elab.async false
set_option linter.all false
set_option maxRecDepth 100000
/-! PLn: items, slices, look-ups, calls, comprehensions, what a loop goes through. -/
namespace PL
open PySem PySem.Spec PyProof.Rows L2
section
variable {X : Cx} {C : Addr → Option (List V)} {T : List D} {N : List Str} {sc : Scope} {pos : Pos} {a b d e : Expr} {fa fb fd : RE D}
theorem re_ix (c : Ctx X C) (tk : TOk (pX X C) T) (ha : PE X a (tE (pX X C) X.K fa)) (hb : PE X b (tE (pX X C) X.K fb)) (hs : PlainIx b) : PE X (.Subscript a b pos) (tE (pX X C) X.K fun ρ => (fa ρ).bind fun x => (fb ρ).bind fun y => ixD T x y) :=
  PEwk (pe_ix (r := rD (pX X C) X.K (ixD T)) (fun value slice pins s σ H x y v u Q I rx ry ⟨d, e, r, hd, he, hf, g⟩ hs => ix2 c tk d e r hf value slice pins s σ H x y v u Q I rx ry hd he g hs) ha hb hs) fun σ H Q h => two h
/-! slices -/
def tO (p : PrW) (K : PySem.W.Frag) (f : RE (Option Int)) : TO := fun σ H Q => ∃ ρ o, EnvOk p K H ρ σ ∧ f ρ = some o ∧ ∀ H', Same H H' → Q o H'
theorem ro_none : PO X none (tO (pX X C) X.K fun _ => some none) := ⟨fun pins s σ H Q I ⟨ρ, o, E, hf, q⟩ => by cases hf; exact po_none.run pins s σ H Q I (q H (Same.refl H))⟩
theorem ro_some (ha : PE X a (tE (pX X C) X.K fa)) : PO X (some a) (tO (pX X C) X.K fun ρ => (asI (fa ρ)).map some) := ⟨fun pins s σ H Q I ⟨ρ, o, E, hf, q⟩ => by
  obtain ⟨i, e1, e2⟩ := mpd hf
  subst e2
  exact (po_some ha).run pins s σ H Q I ⟨ρ, _, E, asI_some e1, fun v H1 s1 r1 => ⟨i, rpInt.mp r1, q H1 s1⟩⟩⟩
theorem slD_or {x r : D} {l h : Option Int} (e : slD x l h = some r) : (∃ ds, x = .list ds ∧ r = .list (cutD ds l h)) ∨ ∃ ds, x = .tuple ds ∧ r = .tuple (cutD ds l h) := by
  cases x <;> simp only [slD, Option.some.injEq] at e <;> try (cases e; done)
  · exact .inl ⟨_, rfl, e.symm⟩
  · exact .inr ⟨_, rfl, e.symm⟩
theorem re_sl (c : Ctx X C) {lo hi : Option Expr} {p2 : Pos} {fl fh : RE (Option Int)} (ha : PE X a (tE (pX X C) X.K fa)) (hl : PO X lo (tO (pX X C) X.K fl)) (hh : PO X hi (tO (pX X C) X.K fh)) :
    PE X (.Subscript a (.Slice lo hi none p2) pos) (tE (pX X C) X.K fun ρ => (fa ρ).bind fun x => (fl ρ).bind fun l => (fh ρ).bind fun h => slD x l h) := by
  refine ⟨fun pins s σ H Q I ⟨ρ, r, E, hf, q⟩ => ?_⟩
  obtain ⟨x, e1, hf⟩ := bnd hf
  obtain ⟨l, e2, hf⟩ := bnd hf
  obtain ⟨h, e3, hf⟩ := bnd hf
  rcases slD_or hf with ⟨ds, ex, er⟩ | ⟨ds, ex, er⟩ <;> subst ex er
  · refine thn ((pe_slice sl_list ha hl hh).run pins s σ H (fun v H' => ∃ p o, v = .ref p ∧ H' p = some o ∧ Mut (some o) ∧ ∀ od, Q v (upd H' p (.frz od o))) I ⟨ρ, _, E, e1, fun v H1 s1 r1 => ⟨ρ, l, E.same s1, e2, fun H2 s2 => ⟨ρ, h, E.same (s1.trans s2), e3, fun H3 s3 => ?_⟩⟩⟩) fun u s' h => EPseal h
    obtain ⟨p, xs, ev, h1, h2⟩ := rpLst.mp (Rp.keep (s2.trans s3).kp _ _ r1)
    refine ⟨p, xs, ev, h1.sq, fun p' hp => ⟨p', _, rfl, upd_same, True.intro, fun od => ?_⟩⟩
    rw [upd_upd]
    exact Give.lst (fun w H4 s4 r4 => q w H4 (((s1.trans s2).trans s3).trans s4) r4) (h2.cut l h) p' od hp
  · refine (pe_slice (sl_tupK (flatK (cutD ds l h))) ha hl hh).run pins s σ H Q I ⟨ρ, _, E, e1, fun v H1 s1 r1 => ⟨ρ, l, E.same s1, e2, fun H2 s2 => ⟨ρ, h, E.same (s1.trans s2), e3, fun H3 s3 => ?_⟩⟩⟩
    obtain ⟨p, xs, ev, h1, h2⟩ := rpTup.mp (Rp.keep (s2.trans s3).kp _ _ r1)
    have g : Give (pX X C) X.K H3 (.tuple (cutD ds l h)) Q := fun w H4 s4 r4 => q w H4 (((s1.trans s2).trans s3).trans s4) r4
    refine ⟨p, xs, ev, h1.sq c.cc, fun z => ?_, fun _ => g.tup (h2.cut l h)⟩
    have ec : cutD ds l h = ds := by
      unfold cutD
      rw [← h2.len, z.1, z.2]
      simp [h2.len]
    rw [ec] at g
    exact g _ H3 (Same.refl H3) (rpTup.mpr ⟨p, xs, rfl, h1, h2⟩)
theorem re_revL (c : Ctx X C) {k : Nat} {p1 p2 p3 : Pos} (ha : PE X a (tE (pX X C) X.K fa)) : PE X (.Subscript a (.Slice none none (some (.UnaryOp .USub (.Constant (.int 1) k p1) p2)) p3) pos) (tE (pX X C) X.K fun ρ => (fa ρ).bind revD) := by
  refine ⟨fun pins s σ H Q I ⟨ρ, r, E, hf, q⟩ => ?_⟩
  obtain ⟨x, e1, hf⟩ := bnd hf
  cases x <;> simp only [revD] at hf <;> try (cases hf; done)
  cases hf
  refine thn ((pe_revL ha).run pins s σ H (fun v H' => ∃ p o, v = .ref p ∧ H' p = some o ∧ Mut (some o) ∧ ∀ od, Q v (upd H' p (.frz od o))) I ⟨ρ, _, E, e1, fun v H1 s1 r1 => ?_⟩) fun u s' h => EPseal h
  obtain ⟨p, xs, ev, h1, h2⟩ := rpLst.mp r1
  refine ⟨p, xs, ev, h1.sq, fun p' hp => ⟨p', _, rfl, upd_same, True.intro, fun od => ?_⟩⟩
  rw [upd_upd]
  exact Give.lst (fun w H4 s4 r4 => q w H4 (s1.trans s4) r4) h2.rev p' od hp
/-! dicts asked -/
theorem rp_isD {p : PrW} {K : PySem.W.Frag} {H : Hp} {kvs : List (D × D)} {k : D} {o : Option D} {x : V} (hd : Rp p K H (.dict kvs) x) (e : getK T kvs k = some o) : ∃ a, x = .ref a ∧ IsD H a := by
  unfold getK keyK at e
  obtain ⟨q, e1, e2⟩ := bnd e
  obtain ⟨q', e3, e4⟩ := bnd e1
  split at e4
  · rename_i hb
    cases e4
    simp only [Bool.and_eq_true, Bool.not_eq_true'] at hb
    simp only [Rp] at hd
    obtain ⟨a, ex, hd⟩ := hd
    refine ⟨a, ex, ?_⟩
    rcases hd with ⟨od, kk, h1, h2⟩ | ⟨od, kt, h0, h1, h2⟩ | ⟨od, ks, h0, h1, h2⟩
    · exact .inl ⟨kk, .inr ⟨od, h1⟩⟩
    · exact .inr ⟨kt, .inr ⟨od, h1⟩⟩
    · exact absurd (kdAll_b hb.1 h2 hb.2) h0
  · cases e4
theorem re_get (c : Ctx X C) (tk : TOk (pX X C) T) {apos : Pos} (ha : PE X a (tE (pX X C) X.K fa)) (hb : PE X b (tE (pX X C) X.K fb)) (hd : PE X d (tE (pX X C) X.K fd)) (m : M2 X a "get" apos b d pos) :
    PE X (.Call (.Attribute a "get" apos) [b, d] [] pos) (tE (pX X C) X.K fun ρ => (fa ρ).bind fun x => (fb ρ).bind fun y => (fd ρ).bind fun z => dget T x y z) := by
  have hu := c.hu
  refine PEwk (pe_dget2 (by omega) ha hb hd m) fun σ H Q ⟨ρ, r, E, hf, q⟩ => ?_
  obtain ⟨x, e1, hf⟩ := bnd hf
  obtain ⟨y, e2, hf⟩ := bnd hf
  obtain ⟨z, e3, hf⟩ := bnd hf
  cases x <;> simp only [dget] at hf <;> try (cases hf; done)
  obtain ⟨o, e4, e5⟩ := mpd hf
  subst e5
  refine ⟨ρ, _, E, e1, fun v H1 s1 r1 => ?_⟩
  obtain ⟨a', ev, di⟩ := rp_isD r1 e4
  refine ⟨a', ev, di, ρ, y, E.same s1, e2, fun u H2 s2 r2 => ⟨ρ, z, E.same (s1.trans s2), e3, fun w H3 s3 r3 => ?_⟩⟩
  obtain ⟨a2, uo, ev2, dg, ro, _⟩ := rp_dget tk (Rp.keep (s2.trans s3).kp _ _ r1) (Rp.keep s3.kp _ _ r2) e4
  rw [ev] at ev2
  cases ev2
  exact ⟨uo, dg, q _ _ ((s1.trans s2).trans s3) (ro.getD r3)⟩
/-! a dict of the def's own asked -/
theorem ow_dget {p : PrW} {K : PySem.W.Frag} {H : Hp} (tk : TOk p T) {kvs : List (D × D)} {k : D} {o : Option D} {a : Addr} {y : V} (hd : Ow p K H (.dict kvs) a) (hk : Rp p K H k y) (e : getK T kvs k = some o) : ∃ u, DGet H a y u ∧ ORp p K H o u ∧ IsD H a := by
  unfold getK keyK at e
  obtain ⟨q, e1, e2⟩ := bnd e
  obtain ⟨q', e3, e4⟩ := bnd e1
  split at e4
  · rename_i hb
    cases e4
    simp only [Bool.and_eq_true, Bool.not_eq_true'] at hb
    split at e2
    · cases e2
    · rename_i hne
      cases e2
      rcases hd with ⟨kk, h1, h2⟩ | ⟨kt, h0, h1, h2⟩
      · cases q with
        | k key =>
          obtain ⟨ey, _⟩ := rp_key1 hk e3
          exact ⟨valV kk key, .inl ⟨kk, key, .inl h1, ey, rfl⟩, rpD_look h2, .inl ⟨kk, .inl h1⟩⟩
        | t ks =>
          have z := kdAll_t h2 hb.2
          subst z
          exact absurd rfl hne
        | b z => cases hb.1
      · cases q with
        | k key =>
          have z := kdAll_k h2 hb.2
          subst z
          simp only [RpT] at h2
          exact absurd h2 h0
        | t ks =>
          obtain ⟨b, ey, hb2, _⟩ := rp_key tk hk e3
          exact ⟨valV kt ks, .inr ⟨kt, ks, b, .inl h1, ey, hb2, rfl⟩, rpT_look h2 hb.2, .inr ⟨kt, .inl h1⟩⟩
        | b z => cases hb.1
  · cases e4
theorem re_oget (c : Ctx X C) (tk : TOk (pX X C) T) {i : Nat} {x : Str} {apos p1 : Pos} (hN : X.N[i]? = some x) (hv : Vis X.env.scope x) (hd0 : (x == ("__debug__" : Str)) = false) (hcd : (x == ("__classdict__" : Str)) = false)
    (hb : PE X b (tE (pX X C) X.K fb)) (hd : PE X d (tE (pX X C) X.K fd)) (m : M2 X (.Name x p1) "get" apos b d pos) :
    PE X (.Call (.Attribute (.Name x p1) "get" apos) [b, d] [] pos) (tE (pX X C) X.K fun ρ => (ρ.own i).bind fun x => (fb ρ).bind fun y => (fd ρ).bind fun z => dget T x y z) := by
  have hu := c.hu
  refine PEwk (pe_dget2 (by omega) (pe_var hN hv hd0 hcd) hb hd m) fun σ H Q ⟨ρ, r, E, hf, q⟩ => ?_
  obtain ⟨x, e1, hf⟩ := bnd hf
  obtain ⟨y, e2, hf⟩ := bnd hf
  obtain ⟨z, e3, hf⟩ := bnd hf
  cases x <;> simp only [dget] at hf <;> try (cases hf; done)
  obtain ⟨o, e4, e5⟩ := mpd hf
  subst e5
  obtain ⟨a', e6, ow⟩ := E.own e1
  have di : IsD H a' := by
    rcases ow with ⟨kk, h1, _⟩ | ⟨kt, _, h1, _⟩
    · exact .inl ⟨kk, .inl h1⟩
    · exact .inr ⟨kt, .inl h1⟩
  refine ⟨_, e6, a', rfl, di, ρ, y, E, e2, fun u H2 s2 r2 => ⟨ρ, z, E.same s2, e3, fun w H3 s3 r3 => ?_⟩⟩
  obtain ⟨uo, dg, ro, _⟩ := ow_dget tk (ow.same (s2.trans s3)) (Rp.keep s3.kp _ _ r2) e4
  exact ⟨uo, dg, q _ _ (s2.trans s3) (ro.getD r3)⟩
/-! calls of defs -/
/-- a def's promise: the value of f -/
def spP (p : PrW) (K : PySem.W.Frag) (n : Nat) (f : List D → Option D) : Sp := fun vs H Q _ => vs.length = n ∧ ∃ ds r, RpA p K H ds vs ∧ f ds = some r ∧ ∀ v H', Same H H' → Rp p K H' r v → Q v H'
variable {es : List Expr} {fs : RE (List D)}
theorem re_call {k n : Nat} {f : Addr} {fdt : FuncData} {ps : List Str} {x : Str} {p : Pos} {F : List D → Option D} (FO : FnOk X.prog X.w X.K X.mg X.base CX0 k f fdt ps (spP (pX X C) X.K n F)) (hr : Room k X.A) (hg : Gl X x) (hm : X.mg x = some (.ref f)) (hk : PySem.W.keepIn X.K (.ref f) = true) (hb : Binds X.K fdt ps [])
    (ha : PA X (e :: es) (tA (pX X C) X.K fs)) (hn : (e :: es).length = n) (hl : ∀ ρ ds, fs ρ = some ds → ds.length = (e :: es).length) (hdb : (x == ("__debug__" : Str)) = false) (he : starEach (e :: es) X.env = (false, eval e X.env) :: starEach es X.env) (hpl : (backTo pos (starEach es X.env)).any (·.1) = false) :
    PE X (.Call (.Name x p) (e :: es) [] pos) (tE (pX X C) X.K fun ρ => (fs ρ).bind F) := by
  refine PEwk (pe_call FO hr hg hm hk hb .nil (E := fun _ _ _ => False) (fun _ _ _ _ _ _ _ h => h.elim) ha hdb he hpl) fun σ H Q ⟨ρ, r, E, hf, q⟩ => ?_
  obtain ⟨ds, e1, e2⟩ := bnd hf
  refine ⟨ρ, ds, E, e1, fun vs H1 s1 r1 => ⟨by rw [List.append_nil, r1.len, hl ρ ds e1, hn], ds, r, by rw [List.append_nil]; exact r1, e2, fun v H2 s2 r2 => q v H2 (s1.trans s2) r2⟩⟩
theorem re_call0 {k : Nat} {f : Addr} {fdt : FuncData} {ps : List Str} {x : Str} {p : Pos} {F : List D → Option D} (FO : FnOk X.prog X.w X.K X.mg X.base CX0 k f fdt ps (spP (pX X C) X.K 0 F)) (hr : Room k X.A) (hg : Gl X x) (hm : X.mg x = some (.ref f)) (hk : PySem.W.keepIn X.K (.ref f) = true) (hb : Binds X.K fdt ps [])
    (hdb : (x == ("__debug__" : Str)) = false) : PE X (.Call (.Name x p) [] [] pos) (tE (pX X C) X.K fun _ => F []) := by
  refine PEwk (pe_call0 FO hr hg hm hk hb .nil (E := fun _ _ _ => False) (fun _ _ _ _ _ _ _ h => h.elim) hdb) fun σ H Q ⟨ρ, r, E, hf, q⟩ => ?_
  exact ⟨rfl, [], r, .nil, hf, q⟩
/-! what a loop goes through -/
variable {tg : Expr}
theorem ri_seq (c : Ctx X C) (ha : PE X a (tE (pX X C) X.K fa)) : PI X tg a (tI (pX X C) X.K (fun ρ => (fa ρ).bind seqD) false) := by
  refine ⟨fun pins s σ H R I ⟨ρ, ds, E, hf, q⟩ => ?_⟩
  obtain ⟨x, e1, e2⟩ := bnd hf
  cases x <;> simp only [seqD] at e2 <;> try (cases e2; done)
  · cases e2
    refine (pi_list (PEsz ha)).run pins s σ H R I ⟨ρ, _, E, e1, fun v H1 s1 r1 z => ?_⟩
    obtain ⟨p, xs, ev, h1, h2⟩ := rpLst.mp r1
    exact ⟨p, ev, ⟨xs, h1.sq⟩, q _ _ s1 (gv_list (z.lst h1) h1 h2)⟩
  · cases e2
    refine (pi_tup (PEsz ha)).run pins s σ H R I ⟨ρ, _, E, e1, fun v H1 s1 r1 z => ?_⟩
    obtain ⟨p, xs, ev, h1, h2⟩ := rpTup.mp r1
    exact ⟨p, ev, ⟨xs, h1.sq c.cc⟩, q _ _ s1 (gv_tup c.cc (z.tup c.cc h1) h1 h2)⟩
  · split at e2
    · rename_i kvs hn
      cases e2
      refine (pi_keys (PEsz ha)).run pins s σ H R I ⟨ρ, _, E, e1, fun v H1 s1 r1 z => ?_⟩
      simp only [Rp] at r1
      obtain ⟨p, ev, r1⟩ := r1
      rcases r1 with ⟨o, kk, h1, h2⟩ | ⟨o, kt, h0, h1, h2⟩ | ⟨o, bs, h0, h1, h2⟩
      · exact ⟨p, o, ev, .inl ⟨kk, h1, q _ _ s1 (gv_keysK ((z p).2.2.1 kk (.inr ⟨o, h1⟩)) h1 h2)⟩⟩
      · exact ⟨p, o, ev, .inr ⟨kt, h1, q _ _ s1 (gv_keysT ((z p).2.2.2 kt (.inr ⟨o, h1⟩)) h1 h2)⟩⟩
      · exfalso
        cases bs with
        | nil => exact h0 rfl
        | cons b l =>
          cases kvs with
          | nil => cases h2
          | cons q' l' =>
            simp only [List.map_cons, List.cons.injEq] at h2
            unfold nB at hn
            rw [List.all_cons, h2.1] at hn
            cases hn
    · cases e2
theorem kK_dK {p : PrW} {K : PySem.W.Frag} {H : Hp} {kvs : List (D × D)} {x : V} (hd : Rp p K H (.dict kvs) x) (hk : kK kvs = true) : ∃ a o kk, x = .ref a ∧ H a = some (.frz o (.dK kk)) ∧ RpD p K H kvs kk := by
  simp only [Rp] at hd
  obtain ⟨a, ev, hd⟩ := hd
  rcases hd with ⟨o, kk, h1, h2⟩ | ⟨o, kt, h0, h1, h2⟩ | ⟨o, bs, h0, h1, h2⟩
  · exact ⟨a, o, kk, ev, h1, h2⟩
  · exfalso
    cases kvs with
    | nil => simp only [RpT] at h2; exact h0 h2
    | cons q l =>
      obtain ⟨k, d⟩ := q
      simp only [RpT] at h2
      obtain ⟨_, _, _, _, e2, _⟩ := h2
      subst e2
      simp [kK] at hk
  · exfalso
    cases bs with
    | nil => exact h0 rfl
    | cons b l =>
      cases kvs with
      | nil => cases h2
      | cons q' l' =>
        simp only [List.map_cons, List.cons.injEq] at h2
        unfold kK at hk
        rw [List.all_cons, h2.1] at hk
        cases hk
theorem ri_vals {apos : Pos} (ha : PE X a (tE (pX X C) X.K fa)) (hbase : attributeBase a "values" X.env (eval a X.env) = eval a X.env) (hline : (apos.endLine == pos.line) = true) : PI X tg (.Call (.Attribute a "values" apos) [] [] pos) (tI (pX X C) X.K (fun ρ => (fa ρ).bind valsI) false) := by
  refine PIwk (pi_values (PEsz ha) hbase hline) fun σ H R ⟨ρ, ds, E, hf, q⟩ => ?_
  obtain ⟨x, e1, e2⟩ := bnd hf
  cases x <;> simp only [valsI] at e2 <;> try (cases e2; done)
  split at e2
  · rename_i hk
    cases e2
    refine ⟨ρ, _, E, e1, fun v H1 s1 r1 z => ?_⟩
    obtain ⟨p, o, kk, ev, h1, h2⟩ := kK_dK r1 hk
    exact ⟨p, o, kk, ev, h1, q _ _ s1 (gv_vals ((z p).2.2.1 kk (.inr ⟨o, h1⟩)) h1 h2)⟩
  · cases e2
theorem ri_items {apos : Pos} {elts : List Expr} {kk : Nat} {tpos : Pos} (ha : PE X a (tE (pX X C) X.K fa)) (hbase : attributeBase a "items" X.env (eval a X.env) = eval a X.env) (hline : (apos.endLine == pos.line) = true) :
    PI X (.Tuple elts kk tpos) (.Call (.Attribute a "items" apos) [] [] pos) (tI (pX X C) X.K (fun ρ => (fa ρ).bind itemsI) true) := by
  refine PIwk (pi_items (PEsz ha) hbase hline) fun σ H R ⟨ρ, ds, E, hf, q⟩ => ?_
  obtain ⟨x, e1, e2⟩ := bnd hf
  cases x <;> simp only [itemsI] at e2 <;> try (cases e2; done)
  split at e2
  · rename_i hk
    cases e2
    refine ⟨ρ, _, E, e1, fun v H1 s1 r1 z => ?_⟩
    obtain ⟨p, o, kk, ev, h1, h2⟩ := kK_dK r1 hk
    exact ⟨p, o, kk, ev, h1, q _ _ s1 (gv_items ((z p).2.2.1 kk (.inr ⟨o, h1⟩)) h1 h2)⟩
  · cases e2
theorem PAsz1 (ha : PE X a (tE (pX X C) X.K fa)) (he : starEach [a] X.env = (false, eval a X.env) :: starEach [] X.env) : PA X [a] (fun σ H Q => tE (pX X C) X.K fa σ H fun x H1 => SzOk H1 → Q [x] H1) := pa_cons (PEsz ha) pa_nil he
theorem ri_enum (c : Ctx X C) {elts : List Expr} {kk : Nat} {tpos p : Pos} (hg : Gl X "enumerate") (hm : X.mg "enumerate" = none) (ha : PE X a (tE (pX X C) X.K fa)) (he : starEach [a] X.env = (false, eval a X.env) :: starEach [] X.env) :
    PI X (.Tuple elts kk tpos) (.Call (.Name "enumerate" p) [a] [] pos) (tI (pX X C) X.K (fun ρ => (fa ρ).bind enumI) true) := by
  refine ⟨fun pins s σ H R I ⟨ρ, ds, E, hf, q⟩ => ?_⟩
  obtain ⟨x, e1, e2⟩ := bnd hf
  cases x <;> simp only [enumI] at e2 <;> try (cases e2; done)
  · cases e2
    refine (pi_enum hg hm (PAsz1 ha he) he).run pins s σ H R I ⟨ρ, _, E, e1, fun v H1 s1 r1 z => ?_⟩
    obtain ⟨p, xs, ev, h1, h2⟩ := rpLst.mp r1
    exact ⟨p, xs, by rw [ev], h1.sq, q _ _ s1 (gv_enumL (z.lst h1) h1 h2)⟩
  · cases e2
    refine (pi_enumT hg hm (PAsz1 ha he) he).run pins s σ H R I ⟨ρ, _, E, e1, fun v H1 s1 r1 z => ?_⟩
    obtain ⟨p, xs, ev, h1, h2⟩ := rpTup.mp r1
    exact ⟨p, xs, by rw [ev], h1.sq c.cc, q _ _ s1 (gv_enumT c.cc (z.tup c.cc h1) h1 h2)⟩
theorem ri_rng1 {p : Pos} (hg : Gl X "range") (hm : X.mg "range" = none) (ha : PE X a (tE (pX X C) X.K fa)) (he : starEach [a] X.env = (false, eval a X.env) :: starEach [] X.env) : PI X tg (.Call (.Name "range" p) [a] [] pos) (tI (pX X C) X.K (fun ρ => (asI (fa ρ)).bind fun z => rngD 0 z) false) := by
  refine PIwk (pi_range1 hg hm (pa_cons ha pa_nil he) he) fun σ H R ⟨ρ, ds, E, hf, q⟩ => ?_
  obtain ⟨z, e1, e2⟩ := bnd hf
  unfold rngD at e2
  split at e2
  · rename_i hz
    cases e2
    refine ⟨ρ, _, E, asI_some e1, fun v H1 s1 r1 => ⟨z, by rw [rpInt.mp r1], by omega, by omega, q _ _ s1 ?_⟩⟩
    rw [show (z - 0).toNat = z.toNat by omega]
    exact gv_rng (by rw [sizeLine_eq]; omega)
  · cases e2
theorem ri_rng2 {p : Pos} (hg : Gl X "range") (hm : X.mg "range" = none) (ha : PE X a (tE (pX X C) X.K fa)) (hb : PE X b (tE (pX X C) X.K fb)) (he : starEach [a, b] X.env = (false, eval a X.env) :: starEach [b] X.env) (he2 : starEach [b] X.env = (false, eval b X.env) :: starEach [] X.env) :
    PI X tg (.Call (.Name "range" p) [a, b] [] pos) (tI (pX X C) X.K (fun ρ => (asI (fa ρ)).bind fun x => (asI (fb ρ)).bind fun y => rngD x y) false) := by
  refine PIwk (pi_range2 hg hm (pa_cons ha (pa_cons hb pa_nil he2) he) (by rw [he, he2]; rfl) he2) fun σ H R ⟨ρ, ds, E, hf, q⟩ => ?_
  obtain ⟨x, e1, hf⟩ := bnd hf
  obtain ⟨y, e2, hf⟩ := bnd hf
  unfold rngD at hf
  split at hf
  · rename_i hz
    cases hf
    exact ⟨ρ, _, E, asI_some e1, fun v H1 s1 r1 => ⟨ρ, _, E.same s1, asI_some e2, fun u H2 s2 r2 => ⟨x, y, by rw [rpInt.mp r1, rpInt.mp r2], ⟨by omega, by omega, by omega, by omega⟩, q _ _ (s1.trans s2) (gv_rng (by rw [sizeLine_eq]; omega))⟩⟩⟩
  · cases hf
theorem ri_rng3 {p : Pos} (hg : Gl X "range") (hm : X.mg "range" = none) (ha : PE X a (tE (pX X C) X.K fa)) (hb : PE X b (tE (pX X C) X.K fb)) (hd : PE X d (tE (pX X C) X.K fd)) (he : starEach [a, b, d] X.env = (false, eval a X.env) :: starEach [b, d] X.env) (he2 : starEach [b, d] X.env = (false, eval b X.env) :: starEach [d] X.env) (he3 : starEach [d] X.env = (false, eval d X.env) :: starEach [] X.env)
    (hpl : (backTo pos (starEach [b, d] X.env)).any (·.1) = false) :
    PI X tg (.Call (.Name "range" p) [a, b, d] [] pos) (tI (pX X C) X.K (fun ρ => (asI (fa ρ)).bind fun x => (asI (fb ρ)).bind fun y => (asI (fd ρ)).bind fun z => if z = -1 then rngDn x y else none) false) := by
  refine PIwk (pi_range3 hg hm (pa_cons ha (pa_cons hb (pa_cons hd pa_nil he3) he2) he) he hpl) fun σ H R ⟨ρ, ds, E, hf, q⟩ => ?_
  obtain ⟨x, e1, hf⟩ := bnd hf
  obtain ⟨y, e2, hf⟩ := bnd hf
  obtain ⟨z, e3, hf⟩ := bnd hf
  split at hf
  · rename_i ez
    subst ez
    unfold rngDn at hf
    split at hf
    · rename_i hz
      cases hf
      exact ⟨ρ, _, E, asI_some e1, fun v H1 s1 r1 => ⟨ρ, _, E.same s1, asI_some e2, fun u H2 s2 r2 => ⟨ρ, _, E.same (s1.trans s2), asI_some e3, fun w H3 s3 r3 => ⟨x, y, -1, _, by rw [rpInt.mp r1, rpInt.mp r2, rpInt.mp r3], RgC.neg (by omega) (by omega) (by omega) (by omega), q _ _ ((s1.trans s2).trans s3) (gv_rngC (by rw [sizeLine_eq]; omega))⟩⟩⟩⟩
    · cases hf
  · cases hf
end
end PL


set_option Elab.async false
set_option linter.all false
set_option maxRecDepth 100000
/-! PLo: comprehensions; list(d.values()). -/
namespace PL
open PySem PySem.Spec PyProof.Rows L2
theorem wipe_ext : ∀ {vs : List Nat} {σ τ : L2.St}, σ.length = τ.length → (∀ j, j ∉ vs → σ[j]? = τ[j]?) → L2.wipe σ vs = L2.wipe τ vs := by
  intro vs σ τ hl h
  refine List.ext_getElem? fun j => ?_
  have off : ∀ {vs : List Nat} {σ : L2.St}, j ∉ vs → (L2.wipe σ vs)[j]? = σ[j]? := by
    intro vs
    induction vs with
    | nil => intro σ _; rfl
    | cons v r ih =>
      intro σ hj
      show ((L2.wipe σ r).set v none)[j]? = _
      rw [List.getElem?_set_ne (fun z => hj (by simp [z]))]
      exact ih fun z => hj (List.mem_cons_of_mem _ z)
  have on : ∀ {vs : List Nat} {σ : L2.St}, j ∈ vs → (L2.wipe σ vs)[j]? = if j < σ.length then some none else none := by
    intro vs
    induction vs with
    | nil => intro σ hj; cases hj
    | cons v r ih =>
      intro σ hj
      show ((L2.wipe σ r).set v none)[j]? = _
      by_cases hv : v = j
      · subst hv
        rw [List.getElem?_set]
        simp [wipe_length]
      · rw [List.getElem?_set_ne hv]
        exact ih ((List.mem_cons.mp hj).resolve_left fun z => hv z.symm)
  by_cases hj : j ∈ vs
  · rw [on hj, on hj, hl]
  · rw [off hj, off hj, h j hj]
theorem wipe_wipe {vs : List Nat} {σ τ : L2.St} {P : Pat} (h : Agr P (L2.wipe σ vs) τ) (hv : ∀ j ∈ P.vars, j ∈ vs) : L2.wipe τ vs = L2.wipe σ vs := by
  rw [wipe_ext (τ := L2.wipe σ vs) h.1 fun j hj => h.2 j fun z => hj (hv j z)]
  refine List.ext_getElem? fun j => ?_
  have off : ∀ {vs : List Nat} {σ : L2.St}, j ∉ vs → (L2.wipe σ vs)[j]? = σ[j]? := by
    intro vs
    induction vs with
    | nil => intro σ _; rfl
    | cons v r ih =>
      intro σ hj
      show ((L2.wipe σ r).set v none)[j]? = _
      rw [List.getElem?_set_ne (fun z => hj (by simp [z]))]
      exact ih fun z => hj (List.mem_cons_of_mem _ z)
  have on : ∀ {vs : List Nat} {σ : L2.St}, j ∈ vs → (L2.wipe σ vs)[j]? = if j < σ.length then some none else none := by
    intro vs
    induction vs with
    | nil => intro σ hj; cases hj
    | cons v r ih =>
      intro σ hj
      show ((L2.wipe σ r).set v none)[j]? = _
      by_cases hv : v = j
      · subst hv
        rw [List.getElem?_set]
        simp [wipe_length]
      · rw [List.getElem?_set_ne hv]
        exact ih ((List.mem_cons.mp hj).resolve_left fun z => hv z.symm)
  by_cases hj : j ∈ vs
  · rw [on hj, on hj, wipe_length]
  · rw [off hj]
theorem kp_upd {H : Hp} {a : Addr} {o o' : HO} (h : H a = some o) (mu : Mut (some o)) : Kp H (upd H a o') := by
  refine ⟨fun b xs e => ?_, fun b ob u e => ?_⟩
  all_goals
    by_cases hb : b = a
    · subst hb
      rw [h] at e
      cases e
      exact mu.elim
    · rw [upd_ne hb]; exact e
/-- old addresses stay, whatever stands at a new one -/
theorem same_off {H1 H2 : Hp} {a : Addr} {o : HO} (hn : H1 a = none) (s : Same H1 H2) : Same H1 (upd H2 a o) := fun b ob e => by
  rw [upd_ne (ne_of_none e hn)]
  exact s b ob e
section
variable {X : Cx} {C : Addr → Option (List V)} {T : List D} {pos : Pos}
theorem compL_cons {f : D → Option (Option D)} {d : D} {ds : List D} {out : List D} (h : compL f (d :: ds) = some out) : (f d = some none ∧ compL f ds = some out) ∨ ∃ x r, f d = some (some x) ∧ compL f ds = some r ∧ out = x :: r := by
  simp only [compL] at h
  obtain ⟨o, e1, e2⟩ := bnd h
  cases o with
  | none => exact .inl ⟨e1, e2⟩
  | some x =>
    obtain ⟨r, e3, e4⟩ := mpd e2
    exact .inr ⟨x, r, e1, e3, e4.symm⟩
theorem lc_read {own : List (Str × Nat)} {y : Bool} {P : Pat} {fi : RE (List D)} {fc : RE Bool} {fe : RE D} (hP : ∀ j ∈ P.vars, j ∈ own.map (·.2)) {σ : L2.St} {H : Hp} {Q : VK} (h : tE (pX X C) X.K (fun ρ => (fi ρ).bind fun ds => (compL (stepL (own.map (·.2)) P fc fe ρ) ds).map PyData.list) σ H Q) :
    tLc (tI (pX X C) X.K fi y) (tZ (pX X C) X.K y P) (tT (pX X C) X.K fc) (tE (pX X C) X.K fe) (own.map (·.2)) σ H (fun v H' => ∃ p o, v = .ref p ∧ H' p = some o ∧ Mut (some o) ∧ ∀ od, Q v (upd H' p (.frz od o))) := by
  obtain ⟨ρ, r, E, hf, q⟩ := h
  obtain ⟨ds, e1, hf⟩ := bnd hf
  obtain ⟨out, e2, e3⟩ := mpd hf
  subst e3
  refine ⟨ρ, ds, E, e1, fun J H1 s1 g a ha => ?_⟩
  obtain ⟨sz, G, Y, wk, hG, hY⟩ := g
  refine lc_it wk (fun i H2 => Same H1 H2 ∧ ∃ vs o1 o2, H2 a = some (.lst vs) ∧ RpA (pX X C) X.K H2 o1 vs ∧ compL (stepL (own.map (·.2)) P fc fe ρ) (ds.drop i) = some o2 ∧ out = o1 ++ o2 ∧ vs.length ≤ i) ?_ ?_ ?_ ?_
  · exact ⟨same_new ha, [], [], out, upd_same, .nil, e2, rfl, Nat.le_refl 0⟩
  · exact fun i H2 _ ⟨s2, _⟩ => hG H2 s2.kp
  · intro i x H2 H3 hi' ⟨s2, vs, o1, o2, h1, h2, h3, h4, h5⟩ hy
    have ed : ds[i]? = some ds[i] := List.getElem?_eq_getElem hi'
    obtain ⟨s3, yd⟩ := hY i H2 x H3 _ s2.kp ed hy
    rw [List.drop_eq_getElem_cons hi'] at h3
    have hb : ∃ ρ1, bindP P ds[i] (wipeE ρ (own.map (·.2))) = some ρ1 ∧ ((fc ρ1 = some false ∧ compL (stepL (own.map (·.2)) P fc fe ρ) (ds.drop (i + 1)) = some o2) ∨ ∃ z r, fc ρ1 = some true ∧ fe ρ1 = some z ∧ compL (stepL (own.map (·.2)) P fc fe ρ) (ds.drop (i + 1)) = some r ∧ o2 = z :: r) := by
      rcases compL_cons h3 with ⟨k1, k2⟩ | ⟨z, r, k1, k2, k3⟩
      · obtain ⟨ρ1, b1, k1⟩ := bnd k1
        obtain ⟨b, b2, k1⟩ := bnd k1
        cases b with
        | false => exact ⟨ρ1, b1, .inl ⟨b2, k2⟩⟩
        | true =>
          obtain ⟨_, _, k4⟩ := mpd k1
          cases k4
      · obtain ⟨ρ1, b1, k1⟩ := bnd k1
        obtain ⟨b, b2, k1⟩ := bnd k1
        cases b with
        | false => cases k1
        | true =>
          obtain ⟨z', b3, k4⟩ := mpd k1
          cases k4
          exact ⟨ρ1, b1, .inr ⟨z, r, b2, b3, k2, k3⟩⟩
    obtain ⟨ρ1, b1, hb⟩ := hb
    have s13 : Same H1 H3 := s2.trans s3
    refine ⟨wipeE ρ (own.map (·.2)), ds[i], ρ1, (E.same (s1.trans s13)).wipe _, yd, b1, fun σ2 E2 ow ag => ⟨wipe_wipe ag hP, ?_⟩⟩
    rcases hb with ⟨b2, k2⟩ | ⟨z, r, b2, b3, k2, k3⟩
    · refine ⟨ρ1, false, E2, b2, fun H4 s4 => ?_⟩
      exact ⟨s13.trans s4, vs, o1, o2, s4 _ _ (s3 _ _ h1), RpA.keep (s3.trans s4).kp _ _ h2, k2, h4, Nat.le_succ_of_le h5⟩
    · refine ⟨ρ1, true, E2, b2, fun H4 s4 => ⟨ρ1, z, E2.same s4, b3, fun v H5 s5 r5 => ?_⟩⟩
      have h6 : H5 a = some (.lst vs) := s5 _ _ (s4 _ _ (s3 _ _ h1))
      have s15 : Same H1 H5 := (s13.trans s4).trans s5
      have kp : Kp H5 (upd H5 a (.lst (vs ++ [v]))) := kp_upd h6 True.intro
      refine ⟨vs, h6, by omega, same_off ha s15, vs ++ [v], o1 ++ [z], r, upd_same, RpA.app (RpA.keep (((s3.trans s4).trans s5).kp.trans kp) _ _ h2) (.cons (Rp.keep kp _ _ r5) .nil), k2, by rw [h4, k3, List.append_assoc]; rfl, by rw [List.length_append]; simp only [List.length_cons, List.length_nil]; omega⟩
  · rintro H2 ⟨s2, vs, o1, o2, h1, h2, h3, h4, h5⟩
    rw [List.drop_length] at h3
    simp only [compL, Option.some.injEq] at h3
    subst h3
    rw [List.append_nil] at h4
    subst h4
    refine ⟨a, .lst vs, rfl, h1, True.intro, fun od => ?_⟩
    have kp : Kp H2 (upd H2 a (.frz od (.lst vs))) := kp_upd h1 True.intro
    exact q _ _ (s1.trans (same_off ha s2)) (rpLst.mpr ⟨a, vs, rfl, .inl ⟨od, upd_same⟩, RpA.keep kp _ _ h2⟩)
theorem re_lc {tg iter elt : Expr} {ifs : List Expr} {scope : Scope} {own : List (Str × Nat)} {y : Bool} {P : Pat} {fi : RE (List D)} {fc : RE Bool} {fe : RE D} (c : Ctx X C) (hi : PI X tg iter (tI (pX X C) X.K fi y)) (ok : BlkOk X.N X.env.scope scope own) (hP : ∀ j ∈ P.vars, j ∈ own.map (·.2))
    (hg : ∀ s H b cl fp, PG (blkOf X scope s H b cl fp) tg (tZ (pX X C) X.K y P)) (ht : ∀ s H b cl fp, PTs (blkOf X scope s H b cl fp) ifs (tT (pX X C) X.K fc)) (he : ∀ s H b cl fp, PE (blkOf X scope s H b cl fp) elt (tE (pX X C) X.K fe)) (hs : ∀ x, foldedSetIterable iter X.env x = pure x) :
    PE X (.ListComp elt [⟨tg, iter, ifs, 0⟩] scope pos) (tE (pX X C) X.K fun ρ => (fi ρ).bind fun ds => (compL (stepL (own.map (·.2)) P fc fe ρ) ds).map PyData.list) := by
  exact ⟨fun pins s σ H Q I h => thn ((pe_lc c.calm c.nd hi ok hg ht he hs).run pins s σ H _ I (lc_read hP h)) fun u s' h => EPseal h⟩
/-! dict comprehensions -/
def putX (p : PrW) (K : PySem.W.Frag) (T : List D) : TPut := fun H a y z Qh => ∃ acc dk dv q, DAcc p K H a acc ∧ kdOf T dk = some q ∧ kdAll T q acc = true ∧ Rp p K H dk y ∧ Rp p K H dv z ∧ acc.length < sizeLine ∧ ∀ o, DAcc p K (upd H a o) a (putD T acc dk q dv) → Qh (upd H a o)
theorem putX_ok (c : Ctx X C) (tk : TOk (pX X C) T) : PutOk X (putX (pX X C) X.K T) := fun pins s σ H a y z u r Qh E I ry rz ⟨acc, dk, dv, q, h1, h2, h3, h4, h5, h6, h7⟩ =>
  dict_store c tk I h1 h2 h3 ry rz h4 h5 h6 fun s' o I' d' => ⟨_, I', h7 o d'⟩
theorem compDK_cons {f : D → Option (Option (D × D))} {d : D} {ds : List D} {acc out : List (D × D)} (h : compDK T f (d :: ds) acc = some out) : (f d = some none ∧ compDK T f ds acc = some out) ∨ ∃ k v q, f d = some (some (k, v)) ∧ kdOf T k = some q ∧ kdAll T q acc = true ∧ compDK T f ds (putD T acc k q v) = some out := by
  simp only [compDK] at h
  obtain ⟨o, e1, e2⟩ := bnd h
  cases o with
  | none => exact .inl ⟨e1, e2⟩
  | some kv =>
    obtain ⟨k, v⟩ := kv
    obtain ⟨q, e3, e4⟩ := bnd e2
    split at e4
    · rename_i hq
      exact .inr ⟨k, v, q, e1, e3, hq, e4⟩
    · cases e4
theorem putD_le (acc : List (D × D)) (k : D) (q : Kd) (v : D) : (putD T acc k q v).length ≤ acc.length + 1 := by
  unfold putD
  split
  · rw [List.length_map]; omega
  · simp
theorem DAcc.keep {p : PrW} {K : PySem.W.Frag} {H H' : Hp} {a : Addr} {acc : List (D × D)} (h : DAcc p K H a acc) (s : Same H H') : DAcc p K H' a acc := by
  rcases h with ⟨kk, h1, h2⟩ | ⟨kt, h0, h1, h2⟩ | ⟨bs, h0, h1, h2⟩
  · exact .inl ⟨kk, s _ _ h1, RpD.keep s.kp _ _ h2⟩
  · exact .inr (.inl ⟨kt, h0, s _ _ h1, RpT.keep s.kp _ _ h2⟩)
  · exact .inr (.inr ⟨bs, h0, s _ _ h1, h2⟩)
theorem DAcc.frz {p : PrW} {K : PySem.W.Frag} {H : Hp} {a : Addr} {acc : List (D × D)} (h : DAcc p K H a acc) : ∃ o, H a = some o ∧ Mut (some o) ∧ ∀ od, Rp p K (upd H a (.frz od o)) (.dict acc) (.ref a) := by
  have kp : ∀ {o : HO}, Kp H (upd H a o) := h.kp
  rcases h with ⟨kk, h1, h2⟩ | ⟨kt, h0, h1, h2⟩ | ⟨bs, h0, h1, h2⟩
  · refine ⟨_, h1, True.intro, fun od => ?_⟩
    simp only [Rp]
    exact ⟨a, rfl, .inl ⟨od, kk, upd_same, RpD.keep kp _ _ h2⟩⟩
  · refine ⟨_, h1, True.intro, fun od => ?_⟩
    simp only [Rp]
    exact ⟨a, rfl, .inr (.inl ⟨od, kt, h0, upd_same, RpT.keep kp _ _ h2⟩)⟩
  · refine ⟨_, h1, True.intro, fun od => ?_⟩
    simp only [Rp]
    exact ⟨a, rfl, .inr (.inr ⟨od, bs, h0, upd_same, h2⟩)⟩
theorem dc_read {own : List (Str × Nat)} {y : Bool} {P : Pat} {fi : RE (List D)} {fc : RE Bool} {fk fv : RE D} (hP : ∀ j ∈ P.vars, j ∈ own.map (·.2)) {σ : L2.St} {H : Hp} {Q : VK} (h : tE (pX X C) X.K (fun ρ => (fi ρ).bind fun ds => (compDK T (stepDK (own.map (·.2)) P fc fk fv ρ) ds []).map PyData.dict) σ H Q) :
    tDx (putX (pX X C) X.K T) (tI (pX X C) X.K fi y) (tZ (pX X C) X.K y P) (tT (pX X C) X.K fc) (tE (pX X C) X.K fk) (tE (pX X C) X.K fv) (own.map (·.2)) σ H Q := by
  obtain ⟨ρ, r, E, hf, q⟩ := h
  obtain ⟨ds, e1, hf⟩ := bnd hf
  obtain ⟨out, e2, e3⟩ := mpd hf
  subst e3
  refine ⟨ρ, ds, E, e1, fun J H1 s1 g a ha => ?_⟩
  obtain ⟨sz, G, Y, wk, hG, hY⟩ := g
  refine ⟨fun i m H2 => m = ds.length - i ∧ i ≤ ds.length ∧ Same H1 H2 ∧ ∃ acc, DAcc (pX X C) X.K H2 a acc ∧ compDK T (stepDK (own.map (·.2)) P fc fk fv ρ) (ds.drop i) acc = some out ∧ acc.length ≤ i, ⟨ds.length, by simp, Nat.zero_le _, same_new ha, [], .inl ⟨[], upd_same, by simp only [RpD]⟩, e2, Nat.le_refl 0⟩, ?_⟩
  rintro i m H2 ⟨em, hi', s2, acc, h1, h3, h5⟩
  by_cases hlt : i < ds.length
  · refine .inr ⟨wk.goes i H2 hlt (hG H2 s2.kp), _, fun H' p' => ⟨ds.length - (i + 1), by omega, p'⟩, fun x H3 hy => ?_⟩
    have ed : ds[i]? = some ds[i] := List.getElem?_eq_getElem hlt
    obtain ⟨s3, yd⟩ := hY i H2 x H3 _ s2.kp ed (wk.yields i H2 x H3 hlt (hG H2 s2.kp) hy)
    rw [List.drop_eq_getElem_cons hlt] at h3
    have s13 : Same H1 H3 := s2.trans s3
    have hb : ∃ ρ1, bindP P ds[i] (wipeE ρ (own.map (·.2))) = some ρ1 ∧ ((fc ρ1 = some false ∧ compDK T (stepDK (own.map (·.2)) P fc fk fv ρ) (ds.drop (i + 1)) acc = some out) ∨ ∃ k v q, fc ρ1 = some true ∧ fk ρ1 = some k ∧ fv ρ1 = some v ∧ kdOf T k = some q ∧ kdAll T q acc = true ∧ compDK T (stepDK (own.map (·.2)) P fc fk fv ρ) (ds.drop (i + 1)) (putD T acc k q v) = some out) := by
      rcases compDK_cons h3 with ⟨k1, k2⟩ | ⟨k, v, q', k1, k2, k3, k4⟩
      · obtain ⟨ρ1, b1, k1⟩ := bnd k1
        obtain ⟨b, b2, k1⟩ := bnd k1
        cases b with
        | false => exact ⟨ρ1, b1, .inl ⟨b2, k2⟩⟩
        | true =>
          obtain ⟨_, _, k1⟩ := bnd k1
          obtain ⟨_, _, k4⟩ := mpd k1
          cases k4
      · obtain ⟨ρ1, b1, k1⟩ := bnd k1
        obtain ⟨b, b2, k1⟩ := bnd k1
        cases b with
        | false => cases k1
        | true =>
          obtain ⟨k', b3, k1⟩ := bnd k1
          obtain ⟨v', b4, k5⟩ := mpd k1
          cases k5
          exact ⟨ρ1, b1, .inr ⟨k, v, q', b2, b3, b4, k2, k3, k4⟩⟩
    obtain ⟨ρ1, b1, hb⟩ := hb
    refine ⟨wipeE ρ (own.map (·.2)), ds[i], ρ1, (E.same (s1.trans s13)).wipe _, yd, b1, fun σ2 E2 ow ag => ⟨wipe_wipe ag hP, ?_⟩⟩
    rcases hb with ⟨b2, k2⟩ | ⟨k, v, q', b2, b3, b4, k2, k3, k4⟩
    · refine ⟨ρ1, false, E2, b2, fun H4 s4 => ?_⟩
      exact ⟨rfl, hlt, s13.trans s4, acc, h1.keep (s3.trans s4), k2, Nat.le_succ_of_le h5⟩
    · refine ⟨ρ1, true, E2, b2, fun H4 s4 => ⟨ρ1, k, E2.same s4, b3, fun yv H5 s5 r5 => ⟨ρ1, v, E2.same (s4.trans s5), b4, fun zv H6 s6 r6 => ?_⟩⟩⟩
      refine ⟨acc, k, v, q', h1.keep (((s3.trans s4).trans s5).trans s6), k2, k3, Rp.keep s6.kp _ _ r5, r6, by omega, fun o d' => ⟨rfl, hlt, same_off ha (((s13.trans s4).trans s5).trans s6), _, d', k4, ?_⟩⟩
      have := putD_le (T := T) acc k q' v
      omega
  · have ei : i = ds.length := by omega
    subst ei
    rw [List.drop_length] at h3
    simp only [compDK, Option.some.injEq] at h3
    subst h3
    obtain ⟨o, h6, h7, h8⟩ := h1.frz
    refine .inl ⟨⟨wk.stops H2 (hG H2 s2.kp), fun od o' e' mu => ?_⟩, o, h6, h7⟩
    rw [h6] at e'
    cases e'
    exact q _ _ (s1.trans (same_off ha s2)) (h8 od)
theorem re_dc {tg iter kx vx : Expr} {ifs : List Expr} {scope : Scope} {own : List (Str × Nat)} {y : Bool} {P : Pat} {fi : RE (List D)} {fc : RE Bool} {fk fv : RE D} (c : Ctx X C) (tk : TOk (pX X C) T) (hi : PI X tg iter (tI (pX X C) X.K fi y)) (ok : BlkOk X.N X.env.scope scope own) (hP : ∀ j ∈ P.vars, j ∈ own.map (·.2))
    (hg : ∀ s H b cl fp, PG (blkOf X scope s H b cl fp) tg (tZ (pX X C) X.K y P)) (ht : ∀ s H b cl fp, PTs (blkOf X scope s H b cl fp) ifs (tT (pX X C) X.K fc)) (hk : ∀ s H b cl fp, PE (blkOf X scope s H b cl fp) kx (tE (pX X C) X.K fk)) (hv : ∀ s H b cl fp, PE (blkOf X scope s H b cl fp) vx (tE (pX X C) X.K fv))
    (cb : ∀ s H b cl fp, Ctx (blkOf X scope s H b cl fp) C) (hs : ∀ x, foldedSetIterable iter X.env x = pure x) :
    PE X (.DictComp kx vx [⟨tg, iter, ifs, 0⟩] scope pos) (tE (pX X C) X.K fun ρ => (fi ρ).bind fun ds => (compDK T (stepDK (own.map (·.2)) P fc fk fv ρ) ds []).map PyData.dict) := by
  exact PEwk (pe_dx (put := putX (pX X C) X.K T) c.calm c.nd hi ok hg ht hk hv (fun s H b cl fp => putX_ok (cb s H b cl fp) tk) hs) fun σ H Q h => dc_read hP h
/-! list(d.values()) -/
theorem kv_vals : ∀ {kk : List (Key × V)} {vs : List (Key × Value)}, KV kk vs → Vals (kk.map (·.2)) (vs.map (·.2))
  | _, _, .nil => .nil
  | _, _, .cons h t => .cons h.2 (kv_vals t)
theorem rpD_vals {p : PrW} {K : PySem.W.Frag} {H : Hp} : ∀ {kvs : List (D × D)} {kk : List (Key × V)}, RpD p K H kvs kk → RpA p K H (kvs.map (·.2)) (kk.map (·.2))
  | [], _, h => by simp only [RpD] at h; subst h; exact .nil
  | (k, d) :: r, _, h => by
    simp only [RpD] at h
    obtain ⟨_, v, l', e, _, h1, h2⟩ := h
    subst e
    exact .cons h1 (rpD_vals h2)
theorem re_lrng {a : Expr} {fa : RE D} {p p2 pos2 : Pos} (c : Ctx X C) (hg : Gl X "list") (hm : X.mg "list" = none) (hg2 : Gl X "range") (hm2 : X.mg "range" = none) (ha : PE X a (tE (pX X C) X.K fa)) (he : starEach [a] X.env = (false, eval a X.env) :: starEach [] X.env) :
    PE X (.Call (.Name "list" p) [.Call (.Name "range" p2) [a] [] pos2] [] pos) (tE (pX X C) X.K fun ρ => (asI (fa ρ)).bind fun z => (rngD 0 z).map PyData.list) := by
  refine ⟨fun pins s σ H Q I ⟨ρ, r, E, hf, q⟩ => ?_⟩
  obtain ⟨z, e1, hf⟩ := bnd hf
  obtain ⟨ds, e2, e3⟩ := mpd hf
  subst e3
  unfold rngD at e2
  split at e2
  · rename_i hb
    cases e2
    refine thn ((pe_listRg (pos := pos) c.calm hg hm (prg_1 hg2 hm2 ha he) rfl).run pins s σ H (fun v H' => ∃ p o, v = .ref p ∧ H' p = some o ∧ Mut (some o) ∧ ∀ od, Q v (upd H' p (.frz od o))) I ⟨ρ, .int z, E, asI_some e1, fun v H1 s1 r1 => ⟨z, rpInt.mp r1, ⟨by omega, by omega, by omega, by omega, by omega⟩, fun p hp => ⟨p, .lst (rgV 0 z), rfl, upd_same, True.intro, fun od => ?_⟩⟩⟩) fun u s' h => EPseal h
    rw [upd_upd]
    refine Give.lst (fun v H2 s2 r2 => q v H2 (s1.trans s2) r2) ?_ p od hp
    have h := rpa_of_ints (p := pX X C) (K := X.K) (H := H1) ((List.range (z - 0).toNat).map fun i : Nat => (0 : Int) + (i : Nat))
    rw [List.map_map, List.map_map] at h
    exact h
  · cases e2
theorem re_lvals {e : Expr} {fa : RE D} {p apos cpos : Pos} (c : Ctx X C) (ha : PE X e (tE (pX X C) X.K fa)) (hg : Gl X "list") (hm : X.mg "list" = none) (hbase : attributeBase e "values" X.env (eval e X.env) = eval e X.env) (hline : (apos.endLine == cpos.line) = true)
    (hs : starEach [.Call (.Attribute e "values" apos) [] [] cpos] X.env = (false, eval (.Call (.Attribute e "values" apos) [] [] cpos) X.env) :: starEach [] X.env) :
    PE X (.Call (.Name "list" p) [.Call (.Attribute e "values" apos) [] [] cpos] [] pos) (tE (pX X C) X.K fun ρ => (fa ρ).bind lvalsI) := by
  refine ⟨fun pins s σ H Q I ⟨ρ, r, E, hf, q⟩ => ?_⟩
  obtain ⟨x, e1, e2⟩ := bnd hf
  cases x <;> simp only [lvalsI] at e2 <;> try (cases e2; done)
  split at e2
  · rename_i kvs hk
    cases e2
    refine wpAny_Call_Name_kw (ld_blt I hg hm (u := .type "list") (by rfl) ?_)
    refine PyProof.Rows.callWith_type1 ?_ hs rfl
    rw [hs]
    show wpAny _ _ (spliced ((false, eval (.Call (.Attribute e "values" apos) [] [] cpos) X.env) :: backTo pos (starEach [] X.env))) _ _ s
    refine Calls.spliced_cons ?_
    refine wpAny_Call_method (T := "dict") (id := "dict.values") hbase rfl hline F.plainAttrs_dict F.slot_dict_values F.type_dict_values (thn (ha.run pins s σ H (fun v H1 => Same H H1 ∧ Rp (pX X C) X.K H1 (.dict kvs) v) I ⟨ρ, _, E, e1, fun v H1 s1 r1 => ⟨s1, r1⟩⟩) fun u sA ⟨v, HA, IA, rv, sm, rd⟩ => ?_)
    obtain ⟨d, o, kk, ev, hd, rk⟩ := kK_dK rd hk
    subst ev
    cases rv
    obtain ⟨hz, hs0, vs, kv, hdo⟩ := dk_rd IA.hok (.inr ⟨o, hd⟩)
    obtain ⟨ep, hat⟩ := hdo.dictAt
    have lk : kk.length = vs.length := kv.length
    have IB : Inv X pins σ HA { sA with heap := sA.heap.push { cls := .type "dict_values", data := .fields #[.ref d] } } := IA.kept (t' := sA.toks) fun b ob q => Heap.get?_push_of_some _ q
    refine ⟨hdo.typeIs, hdo.mapOf.noDict, ?_⟩
    show wpAny _ _ (callWith cpos (.builtin "dict.values") [.ref d] [] []) _ X.xe sA
    refine method_meetsIn F.slot_dict_values F.entry_dict_values rfl (PySem.evalArgs_none ⟨rfl, hdo.typeIs, F.args_dict_values_1 _, _, meets_dict_values (mixKind X.prog X.w) d hs0, ⟨vs, hdo⟩, ?_⟩)
    refine Calls.spliced_nil ?_
    refine PySem.W.kdl_call (PySem.W.kdl_values (knd := mixKind X.prog X.w) (kvs := vs) (ep := ep) (r := sA.heap.objs.size) (d := d)) (IA.ok.hd c.calm) ⟨⟨_, Heap.get?_push_size _ rfl, rfl, rfl⟩, hat.push _⟩ (by omega) fun h' tk acc cc hk' hS hacc => ?_
    have eacc : acc.toList = vs.map (·.2) := by
      refine List.ext_getElem? fun j => ?_
      obtain ⟨hsz, hel⟩ := hacc
      by_cases hj : j < acc.size
      · obtain ⟨k, hk2⟩ := hel j acc[j] (by simp [hj])
        rw [List.getElem?_map, hk2]
        simp [hj]
      · rw [List.getElem?_eq_none (by simpa using hj), List.getElem?_eq_none (by rw [List.length_map]; omega)]
    have rel : Vals (kk.map (·.2)) acc.toList := by
      rw [eacc]
      exact kv_vals kv
    have hn := IB.fresh
    have hl : (kk.map (·.2)).length ≤ sizeLine := by rw [List.length_map]; exact hz
    have I2 := IB.laid (t' := tk) (h' := h') (a := (sA.heap.push { cls := .type "dict_values", data := .fields #[.ref d] }).objs.size) (o := .lst (kk.map (·.2))) hk' (Nat.le_refl _) ⟨hl, acc.toList, cc, rel, by rw [hS]⟩
    obtain ⟨od, I3⟩ := I2.lock upd_same True.intro
    refine ⟨.ref _, _, I3, rfl, ?_⟩
    rw [upd_upd]
    refine q _ _ (sm.trans (same_new hn)) (rpLst.mpr ⟨_, kk.map (·.2), rfl, .inl ⟨od, upd_same⟩, RpA.keep (same_new hn).kp _ _ (rpD_vals rk)⟩)
  · cases e2
/-! len of a list or dict of the def's own -/
theorem re_olen (c : Ctx X C) {i : Nat} {x : Str} {p p1 : Pos} (hg : Gl X "len") (hm : X.mg "len" = none) (hN : X.N[i]? = some x) (hv : Vis X.env.scope x) (hd0 : (x == ("__debug__" : Str)) = false) (hcd : (x == ("__classdict__" : Str)) = false) :
    PE X (.Call (.Name "len" p) [.Name x p1] [] pos) (tE (pX X C) X.K fun ρ => (ρ.own i).bind olenD) := by
  have hc : CallR X (.builtin "len") (fun xs H Q => (∃ a ys, xs = [.ref a] ∧ SqL X.K H a ys ∧ Q (.int ys.length) H) ∨ (∃ a kk, xs = [.ref a] ∧ H a = some (.dK kk) ∧ Q (.int kk.length) H) ∨ ∃ a kt, xs = [.ref a] ∧ H a = some (.dT kt) ∧ Q (.int kt.length) H) := by
    intro pins s σ H xs us Q I r h
    rcases h with ⟨a, ys, ex, h1, q⟩ | ⟨a, kk, ex, h1, q⟩ | ⟨a, kt, ex, h1, q⟩
    · exact call_len_seq pins s σ H xs us Q I r ⟨a, ys, ex, .inl h1, q⟩
    · subst ex
      obtain ⟨u, eu, rx⟩ := vals1 r
      subst eu
      cases rx
      exact d_len I (.inl h1) fun t s' I' => ⟨.int kk.length, H, I', ⟨t, rfl⟩, q⟩
    · subst ex
      obtain ⟨u, eu, rx⟩ := vals1 r
      subst eu
      cases rx
      obtain ⟨z, hs, ys, rel, dd⟩ := dt_rd I.hok (show Rd H a (.dT kt) from .inl h1)
      have hl : kt.length = ys.length := Paired.length rel
      exact call_len_dictH hs dd (by rw [← hl]; rw [sizeLine_eq] at z; omega) ⟨.int kt.length, H, I.tok _, ⟨_, by rw [← hl]⟩, q⟩
  refine PEwk (pe_callB hc hg hm (by rfl) (pa_cons (pe_var hN hv hd0 hcd) pa_nil) (by decide) (by decide)) fun σ H Q ⟨ρ, r, E, hf, q⟩ => ?_
  obtain ⟨d, e1, e2⟩ := bnd hf
  obtain ⟨a, ha, ow⟩ := E.own e1
  refine ⟨_, ha, ?_⟩
  cases d <;> simp only [olenD] at e2 <;> try (cases e2; done)
  · cases e2
    obtain ⟨xs, h1, h2⟩ := ow
    exact .inl ⟨a, xs, rfl, .inl (.inl h1), by rw [h2.len]; exact q _ _ (Same.refl H) (rpInt.mpr rfl)⟩
  · cases e2
    rcases ow with ⟨kk, h1, h2⟩ | ⟨kt, h0, h1, h2⟩
    · exact .inr (.inl ⟨a, kk, rfl, h1, by rw [rpD_len h2]; exact q _ _ (Same.refl H) (rpInt.mpr rfl)⟩)
    · exact .inr (.inr ⟨a, kt, rfl, h1, by rw [rpT_len h2]; exact q _ _ (Same.refl H) (rpInt.mpr rfl)⟩)
end
end PL


set_option Elab.async false
set_option linter.all false
set_option maxRecDepth 100000
/-! PLp: which term of the small language a program's expression is; what is told of it holds. -/
namespace PL
open PySem PySem.Spec PyProof.Rows L2
/-- the static part: the frame's names, the built-in names that are free, the module's names of built-in functions -/
structure Mc where
  N : List Str
  fr : List Str
  mt : List (Str × Bi)
def knd (sc : Scope) (x : Str) (k : NameKind) : Bool := decide (sc.names.lookup x = some k)
def nam (x : Str) : Bool := !(x == ("__debug__" : Str)) && !(x == ("__classdict__" : Str)) && !(x == ("__name__" : Str))
def visB (m : Mc) (sc : Scope) (i : Nat) (x : Str) : Bool := decide (m.N[i]? = some x) && (knd sc x .local || knd sc x .cell || knd sc x .free) && nam x
def locB (m : Mc) (sc : Scope) (i : Nat) (x : Str) : Bool := decide (m.N[i]? = some x) && (knd sc x .local || knd sc x .cell) && nam x
def glB (sc : Scope) (x : Str) : Bool := knd sc x .globalImplicit && nam x
def frB (m : Mc) (sc : Scope) (x : Str) : Bool := glB sc x && m.fr.contains x
def biOf : List (Str × Bi) := [("len", .len), ("abs", .abs), ("int", .int), ("sum", .sum), ("all", .all), ("any", .any), ("sorted", .sorted), ("tuple", .tuple), ("list", .list), ("dict", .dict), ("max", .max), ("min", .min)]
def tyOf : List (Str × String) := [("int", "int"), ("bool", "bool"), ("tuple", "tuple"), ("str", "str"), ("list", "list")]
def biMod : Bi → Bool
  | .gcd => true
  | .lcm => true
  | .comb => true
  | _ => false
/-- patterns -/
def mPs (m : Mc) (sc : Scope) : Pat → List Expr → Bool
  | .nil, es => es.isEmpty
  | .v i, es => match es with
    | [.Name x _] => locB m sc i x
    | _ => false
  | .cons p ps, es => match es with
    | .Tuple es' _ _ :: r => p.isCh && mPs m sc p es' && mPs m sc ps r
    | .Name x q :: r => !p.isCh && mPs m sc p [.Name x q] && mPs m sc ps r
    | _ => false
def mP (m : Mc) (sc : Scope) (p : Pat) (e : Expr) : Bool := match e with
  | .Tuple es _ _ => p.isCh && mPs m sc p es
  | .Name x q => !p.isCh && mPs m sc p [.Name x q]
  | _ => false
def isTup : Expr → Bool
  | .Tuple _ _ _ => true
  | _ => false
/-- what yields new pairs -/
def Iu.pairs : Iu → Bool
  | .enum _ => true
  | .zip _ _ => true
  | .items _ => true
  | _ => false
def Exs.len : Exs → Nat
  | .nil => 0
  | .cons _ as => as.len + 1
def ownS (m : Mc) (own : List Nat) : List (Str × Nat) := own.map fun i => (m.N.getD i "", i)
/-- not a call without arguments -/
def noC0 : Expr → Bool
  | .Call _ [] _ _ => false
  | _ => true
def noSl : Expr → Bool
  | .Slice _ _ _ _ => false
  | _ => true
mutual
def mE (m : Mc) (sc : Scope) : Ex → Expr → Bool
  | .v i, e => match e with
    | .Name x _ => visB m sc i x
    | _ => false
  | .non, e => match e with
    | .Constant .none _ _ => true
    | _ => false
  | .bl b, e => match e with
    | .Constant (.bool c) _ _ => decide (b = c)
    | _ => false
  | .int z, e => match e with
    | .Constant (.int c) _ _ => decide (z = c)
    | _ => false
  | .str z, e => match e with
    | .Constant (.str c) _ _ => decide (z = c)
    | _ => false
  | .g x, e => match e with
    | .Name y _ => decide (x = y) && glB sc y
    | _ => false
  | .op o a b, e => match e with
    | .BinOp l op r _ => decide (op = opPy o) && mE m sc a l && mE m sc b r
    | _ => false
  | .neg a, e => match e with
    | .UnaryOp .USub l _ => mE m sc a l
    | _ => false
  | .cmp c a b, e => match e with
    | .Compare l [op] [r] _ => decide (op = cmpPy c) && !behindInMarks (cmpPy c) r && mE m sc a l && mE m sc b r
    | _ => false
  | .chain c1 c2 a b d, e => match e with
    | .Compare l [op1, op2] [r, t] _ => decide (op1 = cmpPy c1) && decide (op2 = cmpPy c2) && !lastMarks [cmpPy c1, cmpPy c2] [r, t] && mE m sc a l && mE m sc b r && mE m sc d t
    | _ => false
  | .chain3 c1 c2 c3 a b d f, e => match e with
    | .Compare l [op1, op2, op3] [r, t, u] _ => decide (op1 = cmpPy c1) && decide (op2 = cmpPy c2) && decide (op3 = cmpPy c3) && !lastMarks [cmpPy c1, cmpPy c2, cmpPy c3] [r, t, u] && mE m sc a l && mE m sc b r && mE m sc d t && mE m sc f u
    | _ => false
  | .lrng a, e => match e with
    | .Call (.Name x _) [.Call (.Name y _) [l] [] _] [] _ => decide (x = "list") && decide (y = "range") && frB m sc x && frB m sc y && mE m sc a l
    | _ => false
  | .isN a, e => match e with
    | .Compare l [.Is] [.Constant .none _ _] _ => mE m sc a l
    | _ => false
  | .notN a, e => match e with
    | .Compare l [.IsNot] [.Constant .none _ _] _ => mE m sc a l
    | _ => false
  | .and_ a b, e => match e with
    | .BoolOp .And [v, w] pos => mE m sc a v && mE m sc b w
    | .BoolOp .And (v :: w :: u :: r) pos => mE m sc a v && mE m sc b (.BoolOp .And (w :: u :: r) pos)
    | _ => false
  | .or_ a b, e => match e with
    | .BoolOp .Or [v, w] pos => mE m sc a v && mE m sc b w
    | .BoolOp .Or (v :: w :: u :: r) pos => mE m sc a v && mE m sc b (.BoolOp .Or (w :: u :: r) pos)
    | _ => false
  | .not_ a, e => match e with
    | .UnaryOp .Not l _ => mE m sc a l
    | _ => false
  | .ite c a b, e => match e with
    | .IfExp t l r _ => mE m sc c t && mE m sc a l && mE m sc b r
    | _ => false
  | .call f as, e => match e with
    | .Call (.Name x _) es [] _ => decide (x = f) && glB sc x && mEs m sc as es
    | _ => false
  | .bi f as, e => match e with
    | .Call (.Name x _) (l :: es) [] _ => ((decide (biOf.lookup x = some f) && frB m sc x) || (decide (m.mt.lookup x = some f) && biMod f && glB sc x)) && mEs m sc as (l :: es)
    | _ => false
  | .isi a t, e => match e with
    | .Call (.Name x _) [l, .Name y _] [] _ => decide (x = "isinstance") && frB m sc x && frB m sc y && decide (tyOf.lookup y = some t) && mE m sc a l
    | _ => false
  | .tup as, e => match e with
    | .Tuple es _ _ => decide (es.length ≤ 1000) && mEs m sc as es
    | _ => false
  | .lst as, e => match e with
    | .List es _ => decide (es.length ≤ 1000) && mEs m sc as es
    | _ => false
  | .ix a b, e => match e with
    | .Subscript l r _ => noSl r && mE m sc a l && mE m sc b r
    | _ => false
  | .sl a lo hi, e => match e with
    | .Subscript l (.Slice p q none _) _ => mE m sc a l && mO m sc lo p && mO m sc hi q
    | _ => false
  | .rev a, e => match e with
    | .Subscript l (.Slice none none (some (.UnaryOp .USub (.Constant (.int z) _ _) _)) _) _ => decide (z = 1) && mE m sc a l
    | _ => false
  | .lc own elt p it cond, e => match e with
    | .ListComp el [⟨tg, iter, ifs, ia⟩] scope _ => decide (ia = 0) && blkC m.N sc scope (ownS m own) && p.vars.all (fun j => own.contains j) && (!it.pairs || isTup tg) && mI m sc it iter && mP m scope p tg && mC m scope cond ifs && mE m scope elt el
    | _ => false
  | .dc own k v p it cond, e => match e with
    | .DictComp ke ve [⟨tg, iter, ifs, ia⟩] scope _ => decide (ia = 0) && blkC m.N sc scope (ownS m own) && p.vars.all (fun j => own.contains j) && (!it.pairs || isTup tg) && mI m sc it iter && mP m scope p tg && mC m scope cond ifs && mE m scope k ke && mE m scope v ve
    | _ => false
  | .get a k d, e => match e with
    | .Call (.Attribute l x apos) [b, c] [] pos => decide (x = "get") && decide (apos.endLine = pos.line) && noC0 l && mE m sc a l && mE m sc k b && mE m sc d c
    | _ => false
  | .lvals a, e => match e with
    | .Call (.Name x _) [.Call (.Attribute l y apos) [] [] cpos] [] _ => decide (x = "list") && frB m sc x && decide (y = "values") && decide (apos.endLine = cpos.line) && noC0 l && mE m sc a l
    | _ => false
  | .oget i k d, e => match e with
    | .Call (.Attribute (.Name n _) x apos) [b, c] [] pos => decide (x = "get") && decide (apos.endLine = pos.line) && visB m sc i n && mE m sc k b && mE m sc d c
    | _ => false
  | .oix _ _, _ => false
  | .oin _ _ _, _ => false
  | .olen i, e => match e with
    | .Call (.Name x _) [.Name y _] [] _ => decide (x = "len") && frB m sc x && visB m sc i y
    | _ => false
def mEs (m : Mc) (sc : Scope) : Exs → List Expr → Bool
  | .nil, es => es.isEmpty
  | .cons a as, es => match es with
    | e :: r => mE m sc a e && mEs m sc as r
    | [] => false
def mO (m : Mc) (sc : Scope) : Ox → Option Expr → Bool
  | .non, e => e.isNone
  | .some a, e => match e with
    | some l => mE m sc a l
    | none => false
def mC (m : Mc) (sc : Scope) : Ox → List Expr → Bool
  | .non, es => es.isEmpty
  | .some a, es => match es with
    | [l] => mE m sc a l
    | _ => false
def mI (m : Mc) (sc : Scope) : Iu → Expr → Bool
  | .seq a, e => mE m sc a e
  | .rng1 a, e => match e with
    | .Call (.Name x _) [l] [] _ => decide (x = "range") && frB m sc x && mE m sc a l
    | _ => false
  | .rng2 a b, e => match e with
    | .Call (.Name x _) [l, r] [] _ => decide (x = "range") && frB m sc x && mE m sc a l && mE m sc b r
    | _ => false
  | .rng3 a b c, e => match e with
    | .Call (.Name x _) [l, r, t] [] _ => decide (x = "range") && frB m sc x && mE m sc a l && mE m sc b r && mE m sc c t
    | _ => false
  | .enum a, e => match e with
    | .Call (.Name x _) [l] [] _ => decide (x = "enumerate") && frB m sc x && mE m sc a l
    | _ => false
  | .zip _ _, _ => false
  | .vals a, e => match e with
    | .Call (.Attribute l y apos) [] [] pos => decide (y = "values") && decide (apos.endLine = pos.line) && noC0 l && mE m sc a l
    | _ => false
  | .items a, e => match e with
    | .Call (.Attribute l y apos) [] [] pos => decide (y = "items") && decide (apos.endLine = pos.line) && noC0 l && mE m sc a l
    | _ => false
end
end PL


set_option Elab.async false
set_option linter.all false
set_option maxRecDepth 100000
/-! PLq: the match is sound, for expressions. -/
namespace PL
open PySem PySem.Spec PyProof.Rows L2
/-- the frame's scope is the written one, or its block's own -/
structure Sc (X : Cx) (m : Mc) (sc : Scope) : Prop where
  hN : X.N = m.N
  vis : ∀ x, (knd sc x .local || knd sc x .cell || knd sc x .free) = true → Vis X.env.scope x
  loc : ∀ x, (knd sc x .local || knd sc x .cell) = true → Loc X.env.scope x ∧ (X.fn x = true ∨ X.env.scope.names.lookup x = some .local)
  gl : ∀ x, knd sc x .globalImplicit = true → L2.Gl X x
  up : ∀ x, (sc.names.lookup x = some .cell ∨ sc.names.lookup x = some .free) → X.env.scope.names.lookup x = some .cell ∨ X.env.scope.names.lookup x = some .free
/-- the module: its defs, constants, free names -/
structure GOk (X : Cx) (C : Addr → Option (List V)) (G : Gb) (m : Mc) : Prop where
  fns : ∀ x F, G.fns x = some F → ∃ f fdt ps k n, FnOk X.prog X.w X.K X.mg X.base CX0 k f fdt ps (spP (pX X C) X.K n F) ∧ Room k X.A ∧ X.mg x = some (.ref f) ∧ PySem.W.keepIn X.K (.ref f) = true ∧ Binds X.K fdt ps [] ∧ ∀ ds r, F ds = some r → ds.length = n
  cst : ∀ x d, G.cst x = some d → ∃ v u, X.mg x = some u ∧ RelV v u ∧ ∀ H, Rp (pX X C) X.K H d v
  fr : ∀ x, m.fr.contains x = true → X.mg x = none
  mt : ∀ x f, m.mt.lookup x = some f → X.mg x = some (biVal f)
  tk : TOk (pX X C) G.tups
theorem nam1 {x : Str} (h : nam x = true) : (x == ("__debug__" : Str)) = false ∧ (x == ("__classdict__" : Str)) = false ∧ x ≠ "__name__" := by
  simp only [nam, Bool.and_eq_true, Bool.not_eq_true'] at h
  exact ⟨h.1.1, h.1.2, fun z => by rw [z] at h; simp at h⟩
theorem star_cons {e : Expr} {es : List Expr} {env : Env} (h : ∀ f p, e ≠ .Starred f p) : starEach (e :: es) env = (false, eval e env) :: starEach es env := by
  cases e <;> first | rfl | exact absurd rfl (h _ _)
theorem mE_star {m : Mc} {sc : Scope} {x : Ex} {e f : Expr} {p : Pos} (h : mE m sc x e = true) : e ≠ .Starred f p := by
  intro z
  subst z
  cases x <;> simp [mE] at h
theorem mEs_plain {m : Mc} {sc : Scope} {env : Env} {pos : Pos} : ∀ {as : Exs} {es : List Expr}, mEs m sc as es = true → (backTo pos (starEach es env)).any (·.1) = false
  | .nil, es, h => by
    simp only [mEs] at h
    cases es with
    | nil => rfl
    | cons _ _ => cases h
  | .cons a as, es, h => by
    cases es with
    | nil => simp [mEs] at h
    | cons e r =>
      simp only [mEs, Bool.and_eq_true] at h
      rw [star_cons fun f p => mE_star h.1]
      show (backTo pos (starEach r env)).any (·.1) = false
      exact mEs_plain h.2
theorem mEs_len {m : Mc} {sc : Scope} : ∀ {as : Exs} {es : List Expr}, mEs m sc as es = true → as.len = es.length
  | .nil, es, h => by
    cases es with
    | nil => rfl
    | cons _ _ => simp [mEs] at h
  | .cons a as, es, h => by
    cases es with
    | nil => simp [mEs] at h
    | cons e r =>
      simp only [mEs, Bool.and_eq_true] at h
      simp [Exs.len, mEs_len h.2]
theorem evs_len {G : Gb} : ∀ {as : Exs} {ρ : En} {ds : List D}, evs G as ρ = some ds → ds.length = as.len
  | .nil, ρ, ds, h => by
    simp only [evs] at h
    cases h
    rfl
  | .cons a as, ρ, ds, h => by
    simp only [evs] at h
    obtain ⟨x, e1, h⟩ := bnd h
    obtain ⟨xs, e2, e3⟩ := mpd h
    subst e3
    simp [Exs.len, evs_len e2]
theorem boot_bi {x : Str} {f : Bi} (h : biOf.lookup x = some f) : bootBuiltins x = some (biVal f) := by
  have k : (biOf.all fun q => decide (bootBuiltins q.1 = some (biVal q.2))) = true := by decide +kernel
  have mem : (x, f) ∈ biOf := by
    revert h
    generalize biOf = l
    intro h
    induction l with
    | nil => cases h
    | cons q r ih =>
      obtain ⟨y, g⟩ := q
      rw [List.lookup_cons] at h
      by_cases e : x == y
      · rw [e] at h
        simp only [Option.some.injEq] at h
        rw [eq_of_beq e, ← h]
        exact List.mem_cons_self
      · simp only [e] at h
        exact List.mem_cons_of_mem _ (ih h)
  exact of_decide_eq_true (List.all_eq_true.mp k _ mem)
theorem boot_ty {x : Str} {f : String} (h : tyOf.lookup x = some f) : bootBuiltins x = some (.type f) := by
  have k : (tyOf.all fun q => decide (bootBuiltins q.1 = some (.type q.2))) = true := by decide +kernel
  have mem : (x, f) ∈ tyOf := by
    revert h
    generalize tyOf = l
    intro h
    induction l with
    | nil => cases h
    | cons q r ih =>
      obtain ⟨y, g⟩ := q
      rw [List.lookup_cons] at h
      by_cases e : x == y
      · rw [e] at h
        simp only [Option.some.injEq] at h
        rw [eq_of_beq e, ← h]
        exact List.mem_cons_self
      · simp only [e] at h
        exact List.mem_cons_of_mem _ (ih h)
  exact of_decide_eq_true (List.all_eq_true.mp k _ mem)
section
variable {X : Cx} {C : Addr → Option (List V)} {G : Gb} {m : Mc} {sc : Scope}
theorem blk_sc {scope : Scope} (S : Sc X m sc) (s : Shared) (H : Hp) (c : Addr) (cl : List (Str × Addr)) (fp : List Addr) : Sc (blkOf X scope s H c cl fp) m scope := by
  have keep : ∀ {x : Str} {k : NameKind}, k ≠ .free → scope.names.lookup x = some k → (blkOf X scope s H c cl fp).env.scope.names.lookup x = some k := fun hk h => lookup_relS_keep (sc := X.env.scope) hk h
  have free : ∀ {x : Str}, scope.names.lookup x = some .free → (blkOf X scope s H c cl fp).env.scope.names.lookup x = some .cell ∨ (blkOf X scope s H c cl fp).env.scope.names.lookup x = some .free := fun {x} h => by
    show (scope.names.map fun (n, k) => if (k == NameKind.free && X.env.scope.kind == .function && X.env.scope.names.lookup n == some .cell) then (n, NameKind.cell) else (n, k)).lookup x = some .cell ∨ (scope.names.map fun (n, k) => if (k == NameKind.free && X.env.scope.kind == .function && X.env.scope.names.lookup n == some .cell) then (n, NameKind.cell) else (n, k)).lookup x = some .free
    revert h
    generalize scope.names = l
    intro h
    induction l with
    | nil => cases h
    | cons q r ih =>
      obtain ⟨n, k⟩ := q
      rw [List.lookup_cons] at h
      rw [List.map_cons]
      by_cases e : x == n
      · simp only [e, Option.some.injEq] at h
        subst h
        simp only
        split
        · left; rw [List.lookup_cons, e]
        · right
          show List.lookup x ((n, NameKind.free) :: _) = _
          rw [List.lookup_cons, e]
      · simp only [e] at h
        have ih := ih h
        simp only
        split
        · rw [List.lookup_cons]; simp only [e]; exact ih
        · rw [List.lookup_cons]; simp only [e]; exact ih
  refine ⟨S.hN, fun x h => ?_, fun x h => ?_, fun x h => ?_, fun x h => ?_⟩
  · simp only [knd, Bool.or_eq_true, decide_eq_true_eq] at h
    rcases h with (h | h) | h
    · exact .inl (keep (by decide) h)
    · exact .inr (.inl (keep (by decide) h))
    · rcases free h with z | z
      · exact .inr (.inl z)
      · exact .inr (.inr z)
  · simp only [knd, Bool.or_eq_true, decide_eq_true_eq] at h
    rcases h with h | h
    · exact ⟨.inl (keep (by decide) h), .inr (keep (by decide) h)⟩
    · exact ⟨.inr (keep (by decide) h), .inl (by show (scope.names.lookup x == some .cell) = true; rw [h]; rfl)⟩
  · simp only [knd, decide_eq_true_eq] at h
    exact keep (by decide) h
  · rcases h with h | h
    · exact .inl (keep (by decide) h)
    · exact free h
theorem blk_ok {scope : Scope} {own : List (Str × Nat)} (S : Sc X m sc) (h : blkC m.N sc scope own = true) : BlkOk X.N X.env.scope scope own := by
  have k := blkOk_by h
  exact ⟨k.kind, k.uniq, by rw [S.hN]; exact k.ix, fun y hy e => S.up _ (k.free y hy e), by rw [S.hN]; exact k.own⟩
theorem blk_ctx {scope : Scope} (c : Ctx X C) (s : Shared) (H : Hp) (b : Addr) (cl : List (Str × Addr)) (fp : List Addr) : Ctx (blkOf X scope s H b cl fp) C := ⟨c.calm, c.nd, c.hu, c.cc⟩
theorem blk_gok {scope : Scope} (g : GOk X C G m) (s : Shared) (H : Hp) (b : Addr) (cl : List (Str × Addr)) (fp : List Addr) : GOk (blkOf X scope s H b cl fp) C G m := ⟨g.fns, g.cst, g.fr, g.mt, g.tk⟩
theorem S_vis (S : Sc X m sc) {i : Nat} {x : Str} (h : visB m sc i x = true) : X.N[i]? = some x ∧ Vis X.env.scope x ∧ (x == ("__debug__" : Str)) = false ∧ (x == ("__classdict__" : Str)) = false := by
  simp only [visB, Bool.and_eq_true, decide_eq_true_eq] at h
  obtain ⟨n1, n2, _⟩ := nam1 h.2
  exact ⟨by rw [S.hN]; exact h.1.1, S.vis x h.1.2, n1, n2⟩
theorem S_gl (S : Sc X m sc) {x : Str} (h : glB sc x = true) : L2.Gl X x ∧ (x == ("__debug__" : Str)) = false ∧ x ≠ "__name__" := by
  simp only [glB, Bool.and_eq_true] at h
  obtain ⟨n1, _, n2⟩ := nam1 h.2
  exact ⟨S.gl x h.1, n1, n2⟩
theorem S_fr (S : Sc X m sc) (g : GOk X C G m) {x : Str} (h : frB m sc x = true) : L2.Gl X x ∧ X.mg x = none ∧ (x == ("__debug__" : Str)) = false ∧ x ≠ "__name__" := by
  simp only [frB, Bool.and_eq_true] at h
  obtain ⟨n1, n2, n3⟩ := S_gl S h.1
  exact ⟨n1, g.fr x h.2, n2, n3⟩
/-! patterns -/
theorem sP_one (c : Ctx X C) (S : Sc X m sc) {i : Nat} {x : Str} {pos : Pos} (h : locB m sc i x = true) : PG X (.Name x pos) (tP (pX X C) X.K (.v i)) := by
  simp only [locB, Bool.and_eq_true, decide_eq_true_eq] at h
  obtain ⟨l1, l2⟩ := S.loc x h.1.2
  refine PGwk2 (pg_name c.nd (by rw [S.hN]; exact h.1.1) l1 l2) fun v σ H Q ⟨ρ, d, ρ', E, r, e, q⟩ => ?_
  simp only [bindP] at e
  cases e
  exact q _ (E.set r) OwSub.set ⟨by simp, fun j hj => List.getElem?_set_ne (fun z => hj (by simp [Pat.vars, z]))⟩
end
end PL


set_option Elab.async false
set_option linter.all false
set_option maxRecDepth 100000
/-! PLr: the match is sound, for expressions. -/
namespace PL
open PySem PySem.Spec PyProof.Rows L2
section
variable {X : Cx} {C : Addr → Option (List V)} {G : Gb} {m : Mc} {sc : Scope}
theorem sx_of (c : Ctx X C) (S : Sc X m sc) : Ctx X C := c
/-- a tuple of targets, by parts -/
theorem rg_tup' (c : Ctx X C) {es : List Expr} {k : Nat} {pos : Pos} {P : Pat} (hc : P.isCh = true) (h : PGs X es (tPs (pX X C) X.K P)) (hn : (assignEach es X.env).length = P.len) (hst : (assignEach es X.env).findIdx? (·.1) = none) : PG X (.Tuple es k pos) (tY (pX X C) X.K P) := by
  have hP : ∀ i, P ≠ .v i := fun i z => by subst z; cases hc
  refine ⟨fun pins s σ H v u Q I r ⟨ρ, d, ρ', E, y, e, q⟩ => ?_⟩
  have hu : ∃ ds, unpD d = some ds := by
    cases hd : unpD d with
    | some ds => exact ⟨ds, rfl⟩
    | none =>
      cases P with
      | v i => exact absurd rfl (hP i)
      | nil => simp [bindP, hd] at e
      | cons p ps => simp [bindP, hd] at e
  obtain ⟨ds, hu⟩ := hu
  rw [bindP_unp hP hu] at e
  have hl := bindP_len hc e
  rcases y with y | ⟨a, b, t, x1, x2, e1, e2, e3, r1, r2⟩
  · rcases unp_lst hu with z | z
    · subst z
      obtain ⟨a, xs, ev, h1, h2⟩ := rpTup.mp y
      exact (pg_tup c.calm h hn hst).run pins s σ H v u Q I r ⟨a, xs, ev, h1.sq c.cc, by rw [h2.len, hl], ρ, ds, ρ', E, h2, e, q⟩
    · subst z
      obtain ⟨a, xs, ev, h1, h2⟩ := rpLst.mp y
      exact (pg_lst c.calm h hn hst).run pins s σ H v u Q I r ⟨a, xs, ev, h1.sq, by rw [h2.len, hl], ρ, ds, ρ', E, h2, e, q⟩
  · subst e1
    simp only [unpD] at hu
    cases hu
    exact (pg_tup c.calm h hn hst).run pins s σ H v u Q I r ⟨t, [x1, x2], e2, .of e3, by rw [← hl]; rfl, ρ, _, ρ', E, .cons r1 (.cons r2 .nil), e, q⟩
theorem sPs (c : Ctx X C) (S : Sc X m sc) : ∀ P : Pat, (P.isCh = true → ∀ es, mPs m sc P es = true → PGs X es (tPs (pX X C) X.K P) ∧ (assignEach es X.env).length = P.len ∧ (assignEach es X.env).findIdx? (·.1) = none) ∧
    (P.isCh = false → ∀ x pos, mPs m sc P [.Name x pos] = true → PG X (.Name x pos) (tP (pX X C) X.K P)) := by
  intro P
  induction P with
  | v i => exact ⟨fun h => (by cases h), fun _ x pos h => sP_one c S (by simpa only [mPs] using h)⟩
  | nil =>
    refine ⟨fun _ es h => ?_, fun h => (by cases h)⟩
    cases es with
    | nil => exact ⟨rgs_nil, rfl, rfl⟩
    | cons _ _ => simp [mPs] at h
  | cons p ps ihp ihps =>
    refine ⟨fun hc es h => ?_, fun hc x pos h => ?_⟩
    · have hc : ps.isCh = true := hc
      cases es with
      | nil => simp [mPs] at h
      | cons e r =>
        cases e with
        | Tuple es' k pos =>
          simp only [mPs, Bool.and_eq_true] at h
          obtain ⟨⟨h1, h2⟩, h3⟩ := h
          obtain ⟨a1, a2, a3⟩ := ihp.1 h1 es' h2
          obtain ⟨b1, b2, b3⟩ := ihps.1 hc r h3
          refine ⟨rgs_cons (rg_yp (rg_tup' c h1 a1 a2 a3)) b1 rfl, ?_, ?_⟩
          · show (assignEach r X.env).length + 1 = ps.len + 1
            rw [b2]
          · show ((false, assign (.Tuple es' k pos) X.env) :: assignEach r X.env).findIdx? (·.1) = none
            rw [List.findIdx?_cons, b3]
            rfl
        | Name x pos =>
          simp only [mPs, Bool.and_eq_true, Bool.not_eq_true'] at h
          obtain ⟨⟨h1, h2⟩, h3⟩ := h
          have a1 := ihp.2 h1 x pos h2
          obtain ⟨b1, b2, b3⟩ := ihps.1 hc r h3
          refine ⟨rgs_cons a1 b1 rfl, ?_, ?_⟩
          · show (assignEach r X.env).length + 1 = ps.len + 1
            rw [b2]
          · show ((false, assign (.Name x pos) X.env) :: assignEach r X.env).findIdx? (·.1) = none
            rw [List.findIdx?_cons, b3]
            rfl
        | _ => simp [mPs] at h
    · exfalso
      have hc : ps.isCh = false := hc
      simp only [mPs, Bool.and_eq_true] at h
      cases ps with
      | v j => simp [mPs] at h
      | nil => cases hc
      | cons q qs => simp [mPs] at h
theorem sP (c : Ctx X C) (S : Sc X m sc) {P : Pat} {e : Expr} (h : mP m sc P e = true) : PG X e (tP (pX X C) X.K P) := by
  unfold mP at h
  split at h
  · simp only [Bool.and_eq_true] at h
    obtain ⟨a1, a2, a3⟩ := (sPs c S P).1 h.1 _ h.2
    exact rg_yp (rg_tup' c h.1 a1 a2 a3)
  · simp only [Bool.and_eq_true, Bool.not_eq_true'] at h
    exact (sPs c S P).2 h.1 _ _ h.2
  · cases h
/-- .. of new pairs, too -/
theorem sPz (c : Ctx X C) (S : Sc X m sc) {P : Pat} {e : Expr} {y : Bool} (hy : (!y || isTup e) = true) (h : mP m sc P e = true) : PG X e (tZ (pX X C) X.K y P) := by
  cases y with
  | false => exact rg_z (sP c S h)
  | true =>
    unfold mP at h
    split at h
    · simp only [Bool.and_eq_true] at h
      obtain ⟨a1, a2, a3⟩ := (sPs c S P).1 h.1 _ h.2
      exact rg_zy (rg_tup' c h.1 a1 a2 a3)
    · cases hy
    · cases h
theorem base_of {e : Expr} {env : Env} {x : Str} (h : noC0 e = true) : attributeBase e x env (eval e env) = eval e env := by
  cases e with
  | Call f as ks pos =>
    cases as with
    | nil => cases h
    | cons a r => cases f <;> rfl
  | _ => rfl
theorem plain_ix {e : Expr} (h : noSl e = true) : PlainIx e := by
  intro o i
  cases e <;> first | rfl | cases h
theorem fold_of {m : Mc} {sc : Scope} {it : Iu} {e : Expr} {env : Env} (h : mI m sc it e = true) : ∀ x, foldedSetIterable e env x = pure x := by
  intro x
  cases e with
  | Set es k pos =>
    exfalso
    cases it with
    | seq a =>
      simp only [mI] at h
      cases a <;> simp [mE] at h
    | _ => simp [mI] at h
  | _ => rfl
theorem m2_of {m : Mc} {sc : Scope} {o b d : Expr} {p q : Ex} {pos apos : Pos} {env : Env} {X : Cx} (he : X.env = env) (h0 : attributeBase o "get" X.env (eval o X.env) = eval o X.env) (hb : mE m sc p b = true) (hd : mE m sc q d = true) (hl : apos.endLine = pos.line) : M2 X o "get" apos b d pos := by
  have s1 := star_cons (es := [d]) (env := X.env) fun f p => mE_star hb (f := f) (p := p)
  have s2 := star_cons (es := []) (env := X.env) fun f p => mE_star hd (f := f) (p := p)
  refine ⟨h0, ?_, by rw [hl]; simp, ?_⟩
  · rw [s1, s2]; rfl
  · rw [s1, s2]; rfl
/-- PE and PT of a value that is no test form -/
theorem val_pt {e : Expr} {f : RE D} (h : PE X e (tE (pX X C) X.K f)) (he : ∀ whole, isTrue e X.env whole = (do let v ← whole; standAt e.pos; holding [v] (truthy v))) : PE X e (tE (pX X C) X.K f) ∧ PT X e (tT (pX X C) X.K fun ρ => asB (f ρ)) := ⟨h, rt_val h he⟩
end
end PL


set_option Elab.async false
set_option linter.all false
set_option maxRecDepth 100000
/-! PLs: the match is sound, for expressions. -/
namespace PL
open PySem PySem.Spec PyProof.Rows L2
abbrev SE (X : Cx) (C : Addr → Option (List V)) (e : Expr) (f : RE D) : Prop := PE X e (tE (pX X C) X.K f) ∧ PT X e (tT (pX X C) X.K fun ρ => asB (f ρ))
theorem ownS_snd (m : Mc) : ∀ own : List Nat, (ownS m own).map (·.2) = own
  | [] => rfl
  | i :: r => by
    show i :: (ownS m r).map (·.2) = i :: r
    rw [ownS_snd m r]
mutual
theorem sE (G : Gb) (m : Mc) : ∀ (x : Ex) (X : Cx) (C : Addr → Option (List V)) (sc : Scope), Ctx X C → Sc X m sc → GOk X C G m → ∀ e : Expr, mE m sc x e = true → SE X C e (ev G x)
  | .v i, X, C, sc, c, S, g, e, h => by
    cases e <;> simp only [mE] at h <;> try (cases h; done)
    obtain ⟨n1, n2, n3, n4⟩ := S_vis S h
    exact val_pt (re_var n1 n2 n3 n4) (fun _ => rfl)
  | .non, X, C, sc, c, S, g, e, h => by
    cases e <;> simp only [mE] at h <;> try (cases h; done)
    rename_i k j pos
    cases k <;> simp only at h <;> try (cases h; done)
    exact val_pt (re_cV pe_non fun H => by simp only [Rp]) (fun _ => rfl)
  | .bl b, X, C, sc, c, S, g, e, h => by
    cases e <;> simp only [mE] at h <;> try (cases h; done)
    rename_i k j pos
    cases k <;> simp only at h <;> try (cases h; done)
    have e := of_decide_eq_true h
    subst e
    exact val_pt (re_cV pe_bl fun H => rpBool.mpr rfl) (fun _ => rfl)
  | .int z, X, C, sc, c, S, g, e, h => by
    cases e <;> simp only [mE] at h <;> try (cases h; done)
    rename_i k j pos
    cases k <;> simp only at h <;> try (cases h; done)
    have e := of_decide_eq_true h
    subst e
    exact val_pt (re_cV pe_int fun H => rpInt.mpr rfl) (fun _ => rfl)
  | .str z, X, C, sc, c, S, g, e, h => by
    cases e <;> simp only [mE] at h <;> try (cases h; done)
    rename_i k j pos
    cases k <;> simp only at h <;> try (cases h; done)
    have e := of_decide_eq_true h
    subst e
    exact val_pt (re_cV pe_str fun H => rpStr.mpr rfl) (fun _ => rfl)
  | .g x, X, C, sc, c, S, g, e, h => by
    cases e <;> simp only [mE] at h <;> try (cases h; done)
    rename_i y pos
    simp only [Bool.and_eq_true, decide_eq_true_eq] at h
    obtain ⟨h1, h2⟩ := h
    subst h1
    obtain ⟨n1, n2, n3⟩ := S_gl S h2
    cases hc : G.cst x with
    | some d =>
      obtain ⟨v, u, k1, k2, k3⟩ := g.cst x d hc
      have r := val_pt (C := C) (re_cst (pos := pos) n1 k1 k2 k3 n2) (fun _ => rfl)
      have ef : ev G (.g x) = fun _ => some d := by funext ρ; simp only [ev, hc]
      rw [ef]
      exact r
    | none =>
      have ef : ev G (.g x) = fun _ => none := by funext ρ; simp only [ev, hc]
      rw [ef]
      exact ⟨⟨fun pins s σ H Q I ⟨_, _, _, z, _⟩ => by cases z⟩, ⟨fun pins s σ H Q I ⟨_, _, _, z, _⟩ => by cases z⟩⟩
  | .op o a b, X, C, sc, c, S, g, e, h => by
    cases e <;> simp only [mE] at h <;> try (cases h; done)
    simp only [Bool.and_eq_true, decide_eq_true_eq] at h
    obtain ⟨⟨h1, h2⟩, h3⟩ := h
    subst h1
    exact val_pt (re_op c (sE G m a X C sc c S g _ h2).1 (sE G m b X C sc c S g _ h3).1) (fun _ => rfl)
  | .neg a, X, C, sc, c, S, g, e, h => by
    cases e <;> simp only [mE] at h <;> try (cases h; done)
    rename_i op l pos
    cases op <;> simp only at h <;> try (cases h; done)
    exact val_pt (re_neg (sE G m a X C sc c S g _ h).1) (fun _ => rfl)
  | .cmp o a b, X, C, sc, c, S, g, e, h => by
    cases e <;> simp only [mE] at h <;> try (cases h; done)
    split at h
    · rename_i q
      cases q
      simp only [Bool.and_eq_true, decide_eq_true_eq, Bool.not_eq_true'] at h
      obtain ⟨⟨⟨h1, h2⟩, h3⟩, h4⟩ := h
      subst h1
      exact ⟨re_cmp c g.tk (sE G m a X C sc c S g _ h3).1 (sE G m b X C sc c S g _ h4).1 h2, rt_cmp c g.tk (sE G m a X C sc c S g _ h3).1 (sE G m b X C sc c S g _ h4).1 h2⟩
    · cases h
  | .chain o o' a b d, X, C, sc, c, S, g, e, h => by
    cases e <;> simp only [mE] at h <;> try (cases h; done)
    split at h
    · rename_i q
      cases q
      simp only [Bool.and_eq_true, decide_eq_true_eq, Bool.not_eq_true'] at h
      obtain ⟨⟨⟨⟨⟨h1, h2⟩, h3⟩, h4⟩, h5⟩, h6⟩ := h
      subst h1 h2
      exact ⟨re_chain c g.tk (sE G m a X C sc c S g _ h4).1 (sE G m b X C sc c S g _ h5).1 (sE G m d X C sc c S g _ h6).1 h3, rt_chain c g.tk (sE G m a X C sc c S g _ h4).1 (sE G m b X C sc c S g _ h5).1 (sE G m d X C sc c S g _ h6).1 h3⟩
    · cases h
  | .chain3 o o' o'' a b d f, X, C, sc, c, S, g, e, h => by
    cases e <;> simp only [mE] at h <;> try (cases h; done)
    split at h
    · rename_i q
      cases q
      simp only [Bool.and_eq_true, decide_eq_true_eq, Bool.not_eq_true'] at h
      obtain ⟨⟨⟨⟨⟨⟨⟨h1, h2⟩, h0⟩, h3⟩, h4⟩, h5⟩, h6⟩, h7⟩ := h
      subst h1 h2 h0
      exact ⟨re_chain3 c g.tk (sE G m a X C sc c S g _ h4).1 (sE G m b X C sc c S g _ h5).1 (sE G m d X C sc c S g _ h6).1 (sE G m f X C sc c S g _ h7).1 h3, rt_chain3 c g.tk (sE G m a X C sc c S g _ h4).1 (sE G m b X C sc c S g _ h5).1 (sE G m d X C sc c S g _ h6).1 (sE G m f X C sc c S g _ h7).1 h3⟩
    · cases h
  | .lrng a, X, C, sc, c, S, g, e, h => by
    cases e <;> simp only [mE] at h <;> try (cases h; done)
    split at h
    · rename_i q
      cases q
      simp only [Bool.and_eq_true, decide_eq_true_eq] at h
      obtain ⟨⟨⟨⟨h1, h2⟩, h3⟩, h4⟩, h5⟩ := h
      subst h1 h2
      obtain ⟨n1, n2, n3, n4⟩ := S_fr S g h3
      obtain ⟨k1, k2, k3, k4⟩ := S_fr S g h4
      exact val_pt (re_lrng c n1 n2 k1 k2 (sE G m a X C sc c S g _ h5).1 (star_cons fun f p => mE_star h5)) (fun _ => rfl)
    · cases h
  | .isN a, X, C, sc, c, S, g, e, h => by
    cases e <;> simp only [mE] at h <;> try (cases h; done)
    split at h
    · rename_i q
      cases q
      exact ⟨re_isN (sE G m a X C sc c S g _ h).1, rt_isN (sE G m a X C sc c S g _ h).1⟩
    · cases h
  | .notN a, X, C, sc, c, S, g, e, h => by
    cases e <;> simp only [mE] at h <;> try (cases h; done)
    split at h
    · rename_i q
      cases q
      exact ⟨re_notN (sE G m a X C sc c S g _ h).1, rt_notN (sE G m a X C sc c S g _ h).1⟩
    · cases h
  | .and_ a b, X, C, sc, c, S, g, e, h => by
    cases e <;> simp only [mE] at h <;> try (cases h; done)
    split at h
    · rename_i q
      cases q
      simp only [Bool.and_eq_true] at h
      have ia := sE G m a X C sc c S g _ h.1
      have ib := sE G m b X C sc c S g _ h.2
      exact ⟨re_and ia.1 (pe_one ib.1), rt_and ia.2 (pw_and1 ib.2).pt⟩
    · rename_i q
      cases q
      simp only [Bool.and_eq_true] at h
      have ia := sE G m a X C sc c S g _ h.1
      have ib := sE G m b X C sc c S g _ h.2
      exact ⟨re_and ia.1 ib.1, rt_and ia.2 ib.2⟩
    · cases h
  | .or_ a b, X, C, sc, c, S, g, e, h => by
    cases e <;> simp only [mE] at h <;> try (cases h; done)
    split at h
    · rename_i q
      cases q
      simp only [Bool.and_eq_true] at h
      have ia := sE G m a X C sc c S g _ h.1
      have ib := sE G m b X C sc c S g _ h.2
      exact ⟨re_or ia.1 (pe_one ib.1), rt_or ia.2 (pw_or1 ib.2).pt⟩
    · rename_i q
      cases q
      simp only [Bool.and_eq_true] at h
      have ia := sE G m a X C sc c S g _ h.1
      have ib := sE G m b X C sc c S g _ h.2
      exact ⟨re_or ia.1 ib.1, rt_or ia.2 ib.2⟩
    · cases h
  | .not_ a, X, C, sc, c, S, g, e, h => by
    cases e <;> simp only [mE] at h <;> try (cases h; done)
    rename_i op l pos
    cases op <;> simp only at h <;> try (cases h; done)
    have ia := sE G m a X C sc c S g _ h
    exact ⟨re_not ia.1, rt_not ia.2⟩
  | .ite t a b, X, C, sc, c, S, g, e, h => by
    cases e <;> simp only [mE] at h <;> try (cases h; done)
    simp only [Bool.and_eq_true] at h
    have it := sE G m t X C sc c S g _ h.1.1
    have ia := sE G m a X C sc c S g _ h.1.2
    have ib := sE G m b X C sc c S g _ h.2
    exact ⟨re_ite it.2 ia.1 ib.1, rt_ite it.2 ia.2 ib.2⟩
  | .call f as, X, C, sc, c, S, g, e, h => by
    cases e <;> simp only [mE] at h <;> try (cases h; done)
    split at h
    · rename_i x p es pos q
      cases q
      rename_i es pos e0
      simp only [Bool.and_eq_true, decide_eq_true_eq] at h
      obtain ⟨⟨h1, h2⟩, h3⟩ := h
      subst h1
      obtain ⟨n1, n2, n3⟩ := S_gl S h2
      refine val_pt ?_ (fun _ => rfl)
      cases hf : G.fns x with
      | none =>
        have ef : ev G (.call x as) = fun _ => none := by funext ρ; simp only [ev, hf]; rfl
        rw [ef]
        exact ⟨fun pins s σ H Q I ⟨_, _, _, z, _⟩ => by cases z⟩
      | some F =>
        obtain ⟨fa, fdt, ps, k, n, F1, F2, F3, F4, F5, F6⟩ := g.fns x F hf
        have ef : ev G (.call x as) = fun ρ => (evs G as ρ).bind F := by funext ρ; simp only [ev, hf]; rfl
        rw [ef]
        have ias := sEs G m as X C sc c S g _ h3
        cases as with
        | nil =>
          simp only [mEs] at h3
          cases es with
          | cons _ _ => cases h3
          | nil =>
            cases hn : F [] with
            | none => exact ⟨fun pins s σ H Q I ⟨_, _, _, z, _⟩ => by simp [evs, hn] at z⟩
            | some r =>
              have e0 := F6 _ _ hn
              subst e0
              exact re_call0 F1 F2 n1 F3 F4 F5 n2
        | cons a as =>
          cases es with
          | nil => simp [mEs] at h3
          | cons l r =>
            have hm := h3
            simp only [mEs, Bool.and_eq_true] at hm
            have e1 := mEs_len h3
            by_cases hn : (l :: r).length = n
            · exact re_call F1 F2 n1 F3 F4 F5 ias hn (fun ρ ds hd => by rw [evs_len hd, e1]) n2 (star_cons fun f p => mE_star hm.1) (mEs_plain hm.2)
            · refine ⟨fun pins s σ H Q I ⟨_, r', _, z, _⟩ => ?_⟩
              obtain ⟨ds, z1, z2⟩ := bnd z
              exact absurd (by rw [← F6 _ _ z2, evs_len z1, e1]) hn
    · cases h
  | .bi f as, X, C, sc, c, S, g, e, h => by
    cases e <;> simp only [mE] at h <;> try (cases h; done)
    split at h
    · rename_i q
      cases q
      simp only [Bool.and_eq_true, Bool.or_eq_true, decide_eq_true_eq] at h
      obtain ⟨h1, h2⟩ := h
      refine val_pt ?_ (fun _ => rfl)
      have ias := sEs G m as X C sc c S g _ h2
      have hpl : ∃ a as', as = .cons a as' := by
        cases as with
        | nil => simp [mEs] at h2
        | cons a as' => exact ⟨a, as', rfl⟩
      obtain ⟨a, as', ea⟩ := hpl
      have hm := h2
      rw [ea] at hm
      simp only [mEs, Bool.and_eq_true] at hm
      rcases h1 with ⟨k1, k2⟩ | ⟨⟨k1, k2⟩, k3⟩
      · obtain ⟨n1, n2, n3, n4⟩ := S_fr S g k2
        exact re_bi c n1 n2 (boot_bi k1) ias n4 n3 (star_cons fun f p => mE_star hm.1) (mEs_plain hm.2)
      · obtain ⟨n1, n2, n3⟩ := S_gl S k3
        have hid : ∃ id, biVal f = .builtin id := by cases f <;> first | exact ⟨_, rfl⟩ | cases k2
        obtain ⟨id, hid⟩ := hid
        exact re_bim c n1 hid (g.mt _ _ k1) ias n2 (star_cons fun f p => mE_star hm.1) (mEs_plain hm.2)
    · cases h
  | .isi a t, X, C, sc, c, S, g, e, h => by
    cases e <;> simp only [mE] at h <;> try (cases h; done)
    split at h
    · rename_i q
      cases q
      simp only [Bool.and_eq_true, decide_eq_true_eq] at h
      obtain ⟨⟨⟨⟨h1, h2⟩, h3⟩, h4⟩, h5⟩ := h
      subst h1
      obtain ⟨n1, n2, n3, n4⟩ := S_fr S g h2
      obtain ⟨k1, k2, k3, k4⟩ := S_fr S g h3
      exact val_pt (re_isi c n1 n2 k1 k2 (boot_ty h4) k4 k3 (sE G m a X C sc c S g _ h5).1 (star_cons fun f p => mE_star h5)) (fun _ => rfl)
    · cases h
  | .tup as, X, C, sc, c, S, g, e, h => by
    cases e <;> simp only [mE] at h <;> try (cases h; done)
    simp only [Bool.and_eq_true, decide_eq_true_eq] at h
    exact val_pt (re_tup (sEs G m as X C sc c S g _ h.2) h.1 fun ρ ds hd => by rw [evs_len hd, mEs_len h.2]) (fun _ => rfl)
  | .lst as, X, C, sc, c, S, g, e, h => by
    cases e <;> simp only [mE] at h <;> try (cases h; done)
    simp only [Bool.and_eq_true, decide_eq_true_eq] at h
    exact val_pt (re_lst (sEs G m as X C sc c S g _ h.2) h.1 fun ρ ds hd => by rw [evs_len hd, mEs_len h.2]) (fun _ => rfl)
  | .ix a b, X, C, sc, c, S, g, e, h => by
    cases e <;> simp only [mE] at h <;> try (cases h; done)
    simp only [Bool.and_eq_true] at h
    exact val_pt (re_ix c g.tk (sE G m a X C sc c S g _ h.1.2).1 (sE G m b X C sc c S g _ h.2).1 (plain_ix h.1.1)) (fun _ => rfl)
  | .sl a lo hi, X, C, sc, c, S, g, e, h => by
    cases e <;> simp only [mE] at h <;> try (cases h; done)
    split at h
    · rename_i q
      cases q
      simp only [Bool.and_eq_true] at h
      exact val_pt (re_sl c (sE G m a X C sc c S g _ h.1.1).1 (sO G m lo X C sc c S g _ h.1.2) (sO G m hi X C sc c S g _ h.2)) (fun _ => rfl)
    · cases h
  | .rev a, X, C, sc, c, S, g, e, h => by
    cases e <;> simp only [mE] at h <;> try (cases h; done)
    split at h
    · rename_i q
      cases q
      simp only [Bool.and_eq_true, decide_eq_true_eq] at h
      obtain ⟨h1, h2⟩ := h
      subst h1
      exact val_pt (re_revL c (sE G m a X C sc c S g _ h2).1) (fun _ => rfl)
    · cases h
  | .lc own elt p it cond, X, C, sc, c, S, g, e, h => by
    cases e <;> simp only [mE] at h <;> try (cases h; done)
    split at h
    · rename_i q
      cases q
      rename_i pos0 e0 tg0 iter0 ifs0 ia0
      simp only [Bool.and_eq_true, decide_eq_true_eq] at h
      obtain ⟨⟨⟨⟨⟨⟨⟨h1, h2⟩, h3⟩, h4⟩, h5⟩, h6⟩, h7⟩, h8⟩ := h
      subst h1
      have eo : (ownS m own).map (·.2) = own := ownS_snd m own
      have r := re_lc (pos := pos0) (elt := _) c (sI G m it X C sc c S g _ _ h5 (by simpa using h4)) (blk_ok S h2) (P := p) (fun j hj => by rw [eo]; simpa using List.all_eq_true.mp h3 j hj)
        (fun s H b cl fp => sPz (blk_ctx c s H b cl fp) (blk_sc S s H b cl fp) h4 h6) (fun s H b cl fp => sC G m cond _ C _ (blk_ctx c s H b cl fp) (blk_sc S s H b cl fp) (blk_gok g s H b cl fp) _ h7)
        (fun s H b cl fp => (sE G m elt _ C _ (blk_ctx c s H b cl fp) (blk_sc S s H b cl fp) (blk_gok g s H b cl fp) _ h8).1) (fold_of h5)
      rw [eo] at r
      exact val_pt r (fun _ => rfl)
    · cases h
  | .dc own k v p it cond, X, C, sc, c, S, g, e, h => by
    cases e <;> simp only [mE] at h <;> try (cases h; done)
    split at h
    · rename_i q
      cases q
      rename_i pos0 e0 tg0 iter0 ifs0 ia0
      simp only [Bool.and_eq_true, decide_eq_true_eq] at h
      obtain ⟨⟨⟨⟨⟨⟨⟨⟨h1, h2⟩, h3⟩, h4⟩, h5⟩, h6⟩, h7⟩, h8⟩, h9⟩ := h
      subst h1
      have eo : (ownS m own).map (·.2) = own := ownS_snd m own
      have r := re_dc (T := G.tups) (pos := pos0) c g.tk (sI G m it X C sc c S g _ _ h5 (by simpa using h4)) (blk_ok S h2) (P := p) (fun j hj => by rw [eo]; simpa using List.all_eq_true.mp h3 j hj)
        (fun s H b cl fp => sPz (blk_ctx c s H b cl fp) (blk_sc S s H b cl fp) h4 h6) (fun s H b cl fp => sC G m cond _ C _ (blk_ctx c s H b cl fp) (blk_sc S s H b cl fp) (blk_gok g s H b cl fp) _ h7)
        (fun s H b cl fp => (sE G m k _ C _ (blk_ctx c s H b cl fp) (blk_sc S s H b cl fp) (blk_gok g s H b cl fp) _ h8).1) (fun s H b cl fp => (sE G m v _ C _ (blk_ctx c s H b cl fp) (blk_sc S s H b cl fp) (blk_gok g s H b cl fp) _ h9).1) (fun s H b cl fp => blk_ctx c s H b cl fp) (fold_of h5)
      rw [eo] at r
      exact val_pt r (fun _ => rfl)
    · cases h
  | .get a k d, X, C, sc, c, S, g, e, h => by
    cases e <;> simp only [mE] at h <;> try (cases h; done)
    split at h
    · rename_i q
      cases q
      simp only [Bool.and_eq_true, decide_eq_true_eq] at h
      obtain ⟨⟨⟨⟨⟨h1, h2⟩, h3⟩, h4⟩, h5⟩, h6⟩ := h
      subst h1
      exact val_pt (re_get c g.tk (sE G m a X C sc c S g _ h4).1 (sE G m k X C sc c S g _ h5).1 (sE G m d X C sc c S g _ h6).1 (m2_of rfl (base_of h3) h5 h6 h2)) (fun _ => rfl)
    · cases h
  | .lvals a, X, C, sc, c, S, g, e, h => by
    cases e <;> simp only [mE] at h <;> try (cases h; done)
    split at h
    · rename_i q
      cases q
      simp only [Bool.and_eq_true, decide_eq_true_eq] at h
      obtain ⟨⟨⟨⟨⟨h1, h2⟩, h3⟩, h4⟩, h5⟩, h6⟩ := h
      subst h1 h3
      obtain ⟨n1, n2, n3, n4⟩ := S_fr S g h2
      exact val_pt (re_lvals c (sE G m a X C sc c S g _ h6).1 n1 n2 (base_of h5) (by rw [h4]; simp) rfl) (fun _ => rfl)
    · cases h
  | .oget i k d, X, C, sc, c, S, g, e, h => by
    cases e <;> simp only [mE] at h <;> try (cases h; done)
    split at h
    · rename_i q
      cases q
      simp only [Bool.and_eq_true, decide_eq_true_eq] at h
      obtain ⟨⟨⟨⟨h1, h2⟩, h3⟩, h5⟩, h6⟩ := h
      subst h1
      obtain ⟨n1, n2, n3, n4⟩ := S_vis S h3
      exact val_pt (re_oget c g.tk n1 n2 n3 n4 (sE G m k X C sc c S g _ h5).1 (sE G m d X C sc c S g _ h6).1 (m2_of rfl rfl h5 h6 h2)) (fun _ => rfl)
    · cases h
  | .oix _ _, X, C, sc, c, S, g, e, h => by simp [mE] at h
  | .oin _ _ _, X, C, sc, c, S, g, e, h => by simp [mE] at h
  | .olen i, X, C, sc, c, S, g, e, h => by
    cases e <;> simp only [mE] at h <;> try (cases h; done)
    split at h
    · rename_i q
      cases q
      simp only [Bool.and_eq_true, decide_eq_true_eq] at h
      obtain ⟨⟨h1, h2⟩, h3⟩ := h
      subst h1
      obtain ⟨n1, n2, n3, n4⟩ := S_fr S g h2
      obtain ⟨k1, k2, k3, k4⟩ := S_vis S h3
      exact val_pt (re_olen c n1 n2 k1 k2 k3 k4) (fun _ => rfl)
    · cases h
theorem sEs (G : Gb) (m : Mc) : ∀ (as : Exs) (X : Cx) (C : Addr → Option (List V)) (sc : Scope), Ctx X C → Sc X m sc → GOk X C G m → ∀ es : List Expr, mEs m sc as es = true → PA X es (tA (pX X C) X.K (evs G as))
  | .nil, X, C, sc, c, S, g, es, h => by
    cases es with
    | nil => exact ra_nil
    | cons _ _ => simp [mEs] at h
  | .cons a as, X, C, sc, c, S, g, es, h => by
    cases es with
    | nil => simp [mEs] at h
    | cons e r =>
      simp only [mEs, Bool.and_eq_true] at h
      exact ra_cons (sE G m a X C sc c S g e h.1).1 (sEs G m as X C sc c S g r h.2) (star_cons fun f p => mE_star h.1)
theorem sO (G : Gb) (m : Mc) : ∀ (o : Ox) (X : Cx) (C : Addr → Option (List V)) (sc : Scope), Ctx X C → Sc X m sc → GOk X C G m → ∀ e : Option Expr, mO m sc o e = true → PO X e (tO (pX X C) X.K (evO G o))
  | .non, X, C, sc, c, S, g, e, h => by
    cases e with
    | none => exact ro_none
    | some _ => simp [mO] at h
  | .some a, X, C, sc, c, S, g, e, h => by
    cases e with
    | none => simp [mO] at h
    | some l =>
      simp only [mO] at h
      exact ro_some (sE G m a X C sc c S g l h).1
theorem sC (G : Gb) (m : Mc) : ∀ (o : Ox) (X : Cx) (C : Addr → Option (List V)) (sc : Scope), Ctx X C → Sc X m sc → GOk X C G m → ∀ es : List Expr, mC m sc o es = true → PTs X es (tT (pX X C) X.K (evC G o))
  | .non, X, C, sc, c, S, g, es, h => by
    cases es with
    | nil => exact ⟨fun pins s σ H Q I ⟨ρ, b, E, hf, q⟩ => by
        cases hf
        exact pts_nil.run pins s σ H Q I (q H (Same.refl H))⟩
    | cons _ _ => simp [mC] at h
  | .some a, X, C, sc, c, S, g, es, h => by
    cases es with
    | nil => simp [mC] at h
    | cons e r =>
      cases r with
      | cons _ _ => simp [mC] at h
      | nil =>
        simp only [mC] at h
        exact pts_one (sE G m a X C sc c S g e h).2
theorem sI (G : Gb) (m : Mc) : ∀ (it : Iu) (X : Cx) (C : Addr → Option (List V)) (sc : Scope), Ctx X C → Sc X m sc → GOk X C G m → ∀ (e tg : Expr), mI m sc it e = true → (it.pairs = false ∨ isTup tg = true) → PI X tg e (tI (pX X C) X.K (evI G it) it.pairs)
  | .seq a, X, C, sc, c, S, g, e, tg, h, hy => by
    simp only [mI] at h
    exact ri_seq c (sE G m a X C sc c S g e h).1
  | .rng1 a, X, C, sc, c, S, g, e, tg, h, hy => by
    cases e <;> simp only [mI] at h <;> try (cases h; done)
    split at h
    · rename_i q
      cases q
      simp only [Bool.and_eq_true, decide_eq_true_eq] at h
      obtain ⟨⟨h1, h2⟩, h3⟩ := h
      subst h1
      obtain ⟨n1, n2, n3, n4⟩ := S_fr S g h2
      exact ri_rng1 n1 n2 (sE G m a X C sc c S g _ h3).1 (star_cons fun f p => mE_star h3)
    · cases h
  | .rng2 a b, X, C, sc, c, S, g, e, tg, h, hy => by
    cases e <;> simp only [mI] at h <;> try (cases h; done)
    split at h
    · rename_i q
      cases q
      simp only [Bool.and_eq_true, decide_eq_true_eq] at h
      obtain ⟨⟨⟨h1, h2⟩, h3⟩, h4⟩ := h
      subst h1
      obtain ⟨n1, n2, n3, n4⟩ := S_fr S g h2
      exact ri_rng2 n1 n2 (sE G m a X C sc c S g _ h3).1 (sE G m b X C sc c S g _ h4).1 (star_cons fun f p => mE_star h3) (star_cons fun f p => mE_star h4)
    · cases h
  | .rng3 a b d, X, C, sc, c, S, g, e, tg, h, hy => by
    cases e <;> simp only [mI] at h <;> try (cases h; done)
    split at h
    · rename_i q
      cases q
      simp only [Bool.and_eq_true, decide_eq_true_eq] at h
      obtain ⟨⟨⟨⟨h1, h2⟩, h3⟩, h4⟩, h5⟩ := h
      subst h1
      obtain ⟨n1, n2, n3, n4⟩ := S_fr S g h2
      have s3 := star_cons (es := []) (env := X.env) fun f p => mE_star h5 (f := f) (p := p)
      have s2 : ∀ es, starEach (_ :: es) X.env = _ := fun es => star_cons (es := es) (env := X.env) fun f p => mE_star h4 (f := f) (p := p)
      exact ri_rng3 n1 n2 (sE G m a X C sc c S g _ h3).1 (sE G m b X C sc c S g _ h4).1 (sE G m d X C sc c S g _ h5).1 (star_cons fun f p => mE_star h3) (s2 _) s3 (by rw [s2, s3]; rfl)
    · cases h
  | .enum a, X, C, sc, c, S, g, e, tg, h, hy => by
    cases e <;> simp only [mI] at h <;> try (cases h; done)
    split at h
    · rename_i q
      cases q
      simp only [Bool.and_eq_true, decide_eq_true_eq] at h
      obtain ⟨⟨h1, h2⟩, h3⟩ := h
      subst h1
      obtain ⟨n1, n2, n3, n4⟩ := S_fr S g h2
      have ht := hy.resolve_left (by simp [Iu.pairs])
      cases tg <;> first | (cases ht; done) | exact ri_enum c n1 n2 (sE G m a X C sc c S g _ h3).1 (star_cons fun f p => mE_star h3)
    · cases h
  | .zip _ _, X, C, sc, c, S, g, e, tg, h, hy => by simp [mI] at h
  | .vals a, X, C, sc, c, S, g, e, tg, h, hy => by
    cases e <;> simp only [mI] at h <;> try (cases h; done)
    split at h
    · rename_i q
      cases q
      simp only [Bool.and_eq_true, decide_eq_true_eq] at h
      obtain ⟨⟨⟨h1, h2⟩, h3⟩, h4⟩ := h
      subst h1
      exact ri_vals (sE G m a X C sc c S g _ h4).1 (base_of h3) (by rw [h2]; simp)
    · cases h
  | .items a, X, C, sc, c, S, g, e, tg, h, hy => by
    cases e <;> simp only [mI] at h <;> try (cases h; done)
    split at h
    · rename_i q
      cases q
      simp only [Bool.and_eq_true, decide_eq_true_eq] at h
      obtain ⟨⟨⟨h1, h2⟩, h3⟩, h4⟩ := h
      subst h1
      have ht := hy.resolve_left (by simp [Iu.pairs])
      cases tg <;> first | (cases ht; done) | exact ri_items (sE G m a X C sc c S g _ h4).1 (base_of h3) (by rw [h2]; simp)
    · cases h
end
end PL


set_option Elab.async false
set_option linter.all false
set_option maxRecDepth 100000
/-! PLt: statements, each construct with the readings of its parts. -/
namespace PL
open PySem PySem.Spec PyProof.Rows L2
/-- a def's frame: its own lists and dicts are new since H0, and apart -/
structure Fr (p : PrW) (K : PySem.W.Frag) (H0 H : Hp) (ρ : En) (σ : L2.St) : Prop where
  env : EnvOk p K H ρ σ
  same : Same H0 H
  fresh : ∀ (i : Nat) (d : D) (a : Addr), ρ.own i = some d → σ[i]? = some (some (.ref a)) → H0 a = none
  apart : ∀ (i j : Nat) (d e : D) (a : Addr), ρ.own i = some d → ρ.own j = some e → σ[i]? = some (some (.ref a)) → σ[j]? = some (some (.ref a)) → i = j
theorem Fr.up {p : PrW} {K : PySem.W.Frag} {H0 H H' : Hp} {ρ : En} {σ : L2.St} (F : Fr p K H0 H ρ σ) (s : Same H H') : Fr p K H0 H' ρ σ := ⟨F.env.same s, F.same.trans s, F.fresh, F.apart⟩
theorem Fr.sub {p : PrW} {K : PySem.W.Frag} {H0 H : Hp} {ρ ρ' : En} {σ σ' : L2.St} (F : Fr p K H0 H ρ σ) (E : EnvOk p K H ρ' σ') (o : OwSub ρ ρ' σ σ') : Fr p K H0 H ρ' σ' :=
  ⟨E, F.same, fun i d a h e => F.fresh i d a (o i d h).1 ((o i d h).2 ▸ e), fun i j d e a h1 h2 e1 e2 => F.apart i j d e a (o i d h1).1 (o j e h2).1 ((o i d h1).2 ▸ e1) ((o j e h2).2 ▸ e2)⟩
/-- what is to hold behind an outcome -/
def After (p : PrW) (K : PySem.W.Frag) (H0 H : Hp) (E : Ends) : Out → Prop
  | .nx ρ' => ∀ σ' H', Kp H H' → Fr p K H0 H' ρ' σ' → E.nx σ' H'
  | .rt d => ∀ v H', Kp H H' → Same H0 H' → Rp p K H' d v → E.rt v H'
  | .bk ρ' => ∀ σ' H', Kp H H' → Fr p K H0 H' ρ' σ' → E.bk σ' H'
  | .ct ρ' => ∀ σ' H', Kp H H' → Fr p K H0 H' ρ' σ' → E.ct σ' H'
theorem After.mono {p : PrW} {K : PySem.W.Frag} {H0 H H1 : Hp} {E : Ends} {o : Out} (h : After p K H0 H E o) (k : Kp H H1) : After p K H0 H1 E o := by
  cases o with
  | nx ρ => exact fun σ' H' k' F => h σ' H' (k.trans k') F
  | rt d => exact fun v H' k' s r => h v H' (k.trans k') s r
  | bk ρ => exact fun σ' H' k' F => h σ' H' (k.trans k') F
  | ct ρ => exact fun σ' H' k' F => h σ' H' (k.trans k') F
def tS (p : PrW) (K : PySem.W.Frag) (H0 : Hp) (f : En → Option Out) : TS := fun E σ H => ∃ ρ o, Fr p K H0 H ρ σ ∧ f ρ = some o ∧ After p K H0 H E o
/-- behind a statement its new list or dict is frozen -/
theorem SPseal {X : Cx} {pins : List (Addr × Obj)} {E : Ends} {f : Flow} {s : Shared} (h : SP X pins { E with nx := fun σ' H' => ∃ p o, H' p = some o ∧ Mut (some o) ∧ ∀ od, E.nx σ' (upd H' p (.frz od o)) } f s) : SP X pins E f s := by
  cases f with
  | next =>
    obtain ⟨σ', H', I, p, o, h1, h2, h3⟩ := h
    obtain ⟨od, I2⟩ := I.lock h1 h2
    exact ⟨σ', _, I2, h3 od⟩
  | brk => exact h
  | cont => exact h
  | ret u => exact h
section
variable {X : Cx} {C : Addr → Option (List V)} {H0 : Hp} {pos : Pos} {e : Expr} {fa : RE D}
theorem rs_asg {tg : Expr} {P : Pat} (he : PE X e (tE (pX X C) X.K fa)) (hg : PG X tg (tP (pX X C) X.K P)) (hs : swapsWithSole [tg] e pos.line X.env = pure false) (hw : swappedStores [tg] e X.env = pure none) (h1 : (assignEach [tg] X.env).map (·.2) = [assign tg X.env]) :
    PS X (.Assign [tg] e pos) (tS (pX X C) X.K H0 fun ρ => (fa ρ).bind fun d => (bindP P d ρ).map Out.nx) := by
  refine PSwk (ps_asg he hg hs hw h1) fun E σ H ⟨ρ, o, F, hf, q⟩ => ?_
  obtain ⟨d, e1, hf⟩ := bnd hf
  obtain ⟨ρ', e2, e3⟩ := mpd hf
  subst e3
  exact ⟨ρ, d, F.env, e1, fun v H1 s1 r1 => ⟨ρ, d, ρ', F.env.same s1, r1, e2, fun σ' E' ow _ => q σ' H1 s1.kp ((F.up s1).sub E' ow)⟩⟩
/-- a slot's new content -/
def NewS (p : PrW) (K : PySem.W.Frag) (H H' : Hp) (v : V) : Sl → Prop
  | .fz d => Rp p K H' d v
  | .ow d => ∃ a, v = .ref a ∧ H a = none ∧ Ow p K H' d a
  | .un => False
def tR (p : PrW) (K : PySem.W.Frag) (f : En → Option Sl) : TE := fun σ H Q => ∃ ρ s, EnvOk p K H ρ σ ∧ f ρ = some s ∧ ∀ v H', Same H H' → NewS p K H H' v s → Q v H'
theorem NewS.up {p : PrW} {K : PySem.W.Frag} {H H1 H2 : Hp} {v : V} {s : Sl} (h : NewS p K H H1 v s) (k : Same H1 H2) : NewS p K H H2 v s := by
  cases s with
  | fz d => exact Rp.keep k.kp _ _ h
  | ow d =>
    obtain ⟨a, e, n, o⟩ := h
    exact ⟨a, e, n, o.same k⟩
  | un => exact h
theorem own_set_fz {ρ : En} {i j : Nat} {d e : D} (h : En.own (ρ.set i (.fz d)) j = some e) : i ≠ j ∧ ρ.own j = some e := by
  unfold En.own at h ⊢
  by_cases hj : i = j
  · subst hj
    by_cases hi : i < ρ.length
    · rw [List.getElem?_set_self hi] at h; cases h
    · rw [List.getElem?_eq_none (by simpa using hi)] at h; cases h
  · rw [List.getElem?_set_ne hj] at h
    exact ⟨hj, h⟩
theorem own_set_ow {ρ : En} {i j : Nat} {d e : D} (h : En.own (ρ.set i (.ow d)) j = some e) : (i = j ∧ e = d) ∨ (i ≠ j ∧ ρ.own j = some e) := by
  unfold En.own at h ⊢
  by_cases hj : i = j
  · subst hj
    by_cases hi : i < ρ.length
    · rw [List.getElem?_set_self hi] at h; cases h; exact .inl ⟨rfl, rfl⟩
    · rw [List.getElem?_eq_none (by simpa using hi)] at h; cases h
  · rw [List.getElem?_set_ne hj] at h
    exact .inr ⟨hj, h⟩
theorem env_set_ow {p : PrW} {K : PySem.W.Frag} {H : Hp} {ρ : En} {σ : L2.St} (E : EnvOk p K H ρ σ) {i : Nat} {d : D} {a : Addr} (h : Ow p K H d a) : EnvOk p K H (ρ.set i (.ow d)) (σ.set i (some (.ref a))) := by
  refine ⟨by simp [E.len], fun j sl e => ?_⟩
  by_cases hj : i = j
  · subst hj
    by_cases hi : i < ρ.length
    · rw [List.getElem?_set_self hi] at e
      cases e
      exact ⟨some (.ref a), by rw [List.getElem?_set_self (by rw [← E.len]; exact hi)], a, rfl, h⟩
    · rw [List.getElem?_eq_none (by simpa using hi)] at e
      cases e
  · rw [List.getElem?_set_ne hj] at e
    obtain ⟨o, h1, h2⟩ := E.at_ j sl e
    exact ⟨o, by rw [List.getElem?_set_ne hj]; exact h1, h2⟩
/-- what an owned slot holds stands in the heap -/
theorem ow_some {p : PrW} {K : PySem.W.Frag} {H : Hp} {d : D} {a : Addr} (h : Ow p K H d a) : ∃ o, H a = some o ∧ Mut (some o) := by
  cases d with
  | list ds => obtain ⟨xs, h1, _⟩ := h; exact ⟨_, h1, True.intro⟩
  | dict kvs =>
    rcases h with ⟨kk, h1, _⟩ | ⟨kt, _, h1, _⟩
    · exact ⟨_, h1, True.intro⟩
    · exact ⟨_, h1, True.intro⟩
  | _ => exact h.elim
theorem own_env {p : PrW} {K : PySem.W.Frag} {H : Hp} {ρ : En} {σ : L2.St} (E : EnvOk p K H ρ σ) {i : Nat} {d : D} {a : Addr} (h : ρ.own i = some d) (e : σ[i]? = some (some (.ref a))) : Ow p K H d a := by
  obtain ⟨a', e', o⟩ := E.own h
  rw [e] at e'
  cases e'
  exact o
/-- a slot takes a new value, the frame as it stood at H -/
theorem Fr.put {p : PrW} {K : PySem.W.Frag} {H0 H H' : Hp} {ρ : En} {σ : L2.St} {i : Nat} {s : Sl} {v : V} (F : Fr p K H0 H' ρ σ) (n : NewS p K H H' v s) (k0 : Same H0 H) (off : ∀ (j : Nat) (e : D) (a : Addr), ρ.own j = some e → σ[j]? = some (some (.ref a)) → v = .ref a → s = .un ∨ (∃ d, s = .fz d)) : Fr p K H0 H' (ρ.set i s) (σ.set i (some v)) := by
  cases s with
  | un => exact n.elim
  | fz d =>
    exact F.sub (F.env.set n) OwSub.set
  | ow d =>
    obtain ⟨a, ev, na, o⟩ := n
    subst ev
    have n0 : H0 a = none := k0.free na
    refine ⟨env_set_ow F.env o, F.same, fun j e b h1 h2 => ?_, fun j k e1 e2 b h1 h2 h3 h4 => ?_⟩
    · rcases own_set_ow h1 with ⟨hj, _⟩ | ⟨hj, h1⟩
      · subst hj
        rw [List.getElem?_set] at h2
        simp only [if_true] at h2
        split at h2
        · cases h2; exact n0
        · cases h2
      · rw [List.getElem?_set_ne hj] at h2
        exact F.fresh j e b h1 h2
    · have key : ∀ {j k : Nat} {e2 : D}, i = j → i ≠ k → ρ.own k = some e2 → (σ.set i (some (.ref a)))[j]? = some (some (.ref b)) → (σ.set i (some (.ref a)))[k]? = some (some (.ref b)) → False := by
        intro j k e2 hj hk o2 g1 g2
        subst hj
        rw [List.getElem?_set] at g1
        simp only [if_true] at g1
        split at g1
        · cases g1
          rw [List.getElem?_set_ne hk] at g2
          rcases off k e2 a o2 g2 rfl with z | ⟨d', z⟩ <;> cases z
        · cases g1
      rcases own_set_ow h1 with ⟨hj, _⟩ | ⟨hj, h1⟩ <;> rcases own_set_ow h2 with ⟨hk, _⟩ | ⟨hk, h2⟩
      · rw [← hj, ← hk]
      · exact (key hj hk h2 h3 h4).elim
      · exact (key hk hj h1 h4 h3).elim
      · rw [List.getElem?_set_ne hj] at h3
        rw [List.getElem?_set_ne hk] at h4
        exact F.apart j k e1 e2 b h1 h2 h3 h4
/-- an owned slot of a frame that stood at H is not a thing that is new since H -/
theorem off_new {p : PrW} {K : PySem.W.Frag} {H0 H : Hp} {ρ : En} {σ : L2.St} (F : Fr p K H0 H ρ σ) {H' : Hp} {s : Sl} {v : V} (n : NewS p K H H' v s) : ∀ (j : Nat) (e : D) (a : Addr), ρ.own j = some e → σ[j]? = some (some (.ref a)) → v = .ref a → s = .un ∨ (∃ d, s = .fz d) := by
  intro j e a h1 h2 h3
  cases s with
  | un => exact .inl rfl
  | fz d => exact .inr ⟨d, rfl⟩
  | ow d =>
    obtain ⟨a', ev, na, _⟩ := n
    subst h3
    cases ev
    obtain ⟨o, ho, _⟩ := ow_some (own_env F.env h1 h2)
    rw [ho] at na
    cases na
theorem rr_ex (h : PE X e (tE (pX X C) X.K fa)) : PE X e (tR (pX X C) X.K fun ρ => (fa ρ).map Sl.fz) := PEwk h fun σ H Q ⟨ρ, s, E, hf, q⟩ => by
  obtain ⟨d, e1, e2⟩ := mpd hf
  subst e2
  exact ⟨ρ, d, E, e1, fun v H' s' r => q v H' s' r⟩
theorem rr_nl {es : List Expr} {fs : RE (List D)} (ha : PA X es (tA (pX X C) X.K fs)) (hz : es.length ≤ 1000) (hl : ∀ ρ ds, fs ρ = some ds → ds.length = es.length) : PE X (.List es pos) (tR (pX X C) X.K fun ρ => (fs ρ).map fun ds => .ow (.list ds)) := PEwk (pe_lst ha) fun σ H Q ⟨ρ, s, E, hf, q⟩ => by
  obtain ⟨ds, e1, e2⟩ := mpd hf
  subst e2
  exact ⟨ρ, ds, E, e1, fun vs H1 s1 r1 => ⟨by rw [r1.len, hl ρ ds e1, sizeLine_eq]; omega, fun p hp => q _ _ (s1.trans (same_new hp)) ⟨p, rfl, s1.free hp, vs, upd_same, RpA.keep (same_new hp).kp _ _ r1⟩⟩⟩
theorem rr_nd : PE X (.Dict [] [] pos) (tR (pX X C) X.K fun _ => some (.ow (.dict []))) := PEwk pe_dnewK fun σ H Q ⟨ρ, s, E, hf, q⟩ => by
  cases hf
  exact fun p hp => q _ _ (same_new hp) ⟨p, rfl, hp, .inl ⟨[], upd_same, by simp only [RpD]⟩⟩
theorem keyOf_eq {d : D} {k : Key} (h : keyOf d = some k) : d = keyD k := by
  cases d <;> simp only [keyOf] at h <;> first | (cases h; rfl) | cases h
theorem rp_keyOf {p : PrW} {K : PySem.W.Frag} {H : Hp} {k : Key} {v : V} (h : Rp p K H (keyD k) v) : v = kV k := by
  cases k with
  | inl i => exact rpInt.mp h
  | inr x =>
    have h : v = .str x := by simpa only [keyD, Rp] using h
    exact h
theorem rr_nd2 {k1 v1 k2 v2 : Expr} {fk1 fv1 fk2 fv2 : RE D} {T : List D} (hk1 : PE X k1 (tE (pX X C) X.K fk1)) (hv1 : PE X v1 (tE (pX X C) X.K fv1)) (hk2 : PE X k2 (tE (pX X C) X.K fk2)) (hv2 : PE X v2 (tE (pX X C) X.K fv2)) :
    PE X (.Dict [some k1, some k2] [v1, v2] pos) (tR (pX X C) X.K fun ρ => (fk1 ρ).bind fun a => (fv1 ρ).bind fun b => (fk2 ρ).bind fun c => (fv2 ρ).bind fun d => (disp2 T a b c d).map Sl.ow) :=
  PEwk (pe_disp (pps_cons hk1 hv1 (pps_cons hk2 hv2 pps_nil)) rfl rfl (by simp) (by simp)) fun σ H Q ⟨ρ, s, E, hf, q⟩ => by
    obtain ⟨a, e1, hf⟩ := bnd hf
    obtain ⟨b, e2, hf⟩ := bnd hf
    obtain ⟨c, e3, hf⟩ := bnd hf
    obtain ⟨d, e4, hf⟩ := bnd hf
    obtain ⟨dd, e5, e6⟩ := mpd hf
    subst e6
    unfold disp2 at e5
    obtain ⟨ka, f1, e5⟩ := bnd e5
    obtain ⟨kc, f2, f3⟩ := mpd e5
    subst f3
    have ea := keyOf_eq f1
    have ec := keyOf_eq f2
    subst ea ec
    intro p hp
    have s0 : Same H (upd H p (.dK [])) := same_new hp
    refine ⟨ρ, _, E.same s0, e1, fun x H1 s1 r1 => ⟨ρ, _, E.same (s0.trans s1), e2, fun y H2 s2 r2 => ⟨ρ, _, E.same ((s0.trans s1).trans s2), e3, fun z H3 s3 r3 => ⟨ρ, _, E.same (((s0.trans s1).trans s2).trans s3), e4, fun w H4 s4 r4 => ?_⟩⟩⟩⟩
    have s14 : Same (upd H p (.dK [])) H4 := ((s1.trans s2).trans s3).trans s4
    have hp4 : H4 p = some (.dK []) := s14 p _ upd_same
    have ex : x = kV ka := rp_keyOf r1
    have ez : z = kV kc := rp_keyOf r3
    subst ex ez
    refine ⟨hp4, [(ka, y), (kc, w)], rfl, by simp, ?_⟩
    have kp : Kp H4 (upd H4 p (.dK (mergeK [] [(ka, y), (kc, w)]))) := kp_upd hp4 True.intro
    refine q _ _ (fun b' u hb' => ?_) ⟨p, rfl, hp, .inl ⟨_, upd_same, ?_⟩⟩
    · have hne : b' ≠ p := fun e => by rw [e, hp] at hb'; cases hb'
      rw [upd_ne hne]
      exact s14 b' u (s0 b' u hb')
    · have rb := Rp.keep kp _ _ (Rp.keep (s3.trans s4).kp _ _ r2)
      have rd := Rp.keep kp _ _ r4
      exact rpD_put (rpD_put (by simp only [RpD]) rb) rd
variable {i j k : Nat} {x y z : Str} {fr fr2 fr3 : En → Option Sl}
theorem rs_new (c : Ctx X C) {pos' : Pos} (hi : X.N[i]? = some x) (hx : Loc X.env.scope x) (hf : X.fn x = true ∨ X.env.scope.names.lookup x = some .local) (he : PE X e (tR (pX X C) X.K fr)) (hs : swapsWith e (some (.Name x pos')) pos.line X.env = pure false) :
    PS X (.Assign [.Name x pos'] e pos) (tS (pX X C) X.K H0 fun ρ => (fr ρ).map fun s => .nx (ρ.set i s)) := by
  refine PSwk (ps_set c.nd hi hx he hs hf) fun E σ H ⟨ρ, o, F, hf, q⟩ => ?_
  obtain ⟨s, e1, e2⟩ := mpd hf
  subst e2
  exact ⟨ρ, s, F.env, e1, fun v H1 s1 n => q _ H1 s1.kp ((F.up s1).put n F.same (off_new F n))⟩
theorem rs_par (c : Ctx X C) {a b : Expr} {px py pt : Pos} {kt k2 : Nat} {pt2 : Pos} (hi : X.N[i]? = some x) (hj : X.N[j]? = some y) (hij : i ≠ j) (hx : X.env.scope.names.lookup x = some .local) (hy : X.env.scope.names.lookup y = some .local)
    (ha : PE X a (tR (pX X C) X.K fr)) (hb : PE X b (tR (pX X C) X.K fr2)) (he : starEach [a, b] X.env = (false, eval a X.env) :: starEach [b] X.env) (he2 : starEach [b] X.env = (false, eval b X.env) :: starEach [] X.env)
    (hw : swappedStores [.Tuple [.Name x px, .Name y py] kt pt] (.Tuple [a, b] k2 pt2) X.env = pure (some [x, y])) :
    PS X (.Assign [.Tuple [.Name x px, .Name y py] kt pt] (.Tuple [a, b] k2 pt2) pos) (tS (pX X C) X.K H0 fun ρ => (fr ρ).bind fun u => (fr2 ρ).map fun v => .nx ((ρ.set i u).set j v)) := by
  refine PSwk (ps_par c.calm c.nd hi hj hij hx hy (pa_cons ha (pa_cons hb pa_nil he2) he) hw rfl) fun E σ H ⟨ρ, o, F, hf, q⟩ => ?_
  obtain ⟨u, e1, hf⟩ := bnd hf
  obtain ⟨w, e2, e3⟩ := mpd hf
  subst e3
  refine ⟨ρ, u, F.env, e1, fun v1 H1 s1 n1 => ⟨ρ, w, F.env.same s1, e2, fun v2 H2 s2 n2 => ⟨v1, v2, rfl, ?_⟩⟩⟩
  have F1 := ((F.up s1).put (i := i) n1 F.same (off_new F n1))
  have F2 := ((F1.up s2).put (i := j) n2 (F.same.trans s1) (off_new F1 n2))
  exact q _ H2 (s1.trans s2).kp F2
theorem rs_par3 (c : Ctx X C) {a b d : Expr} {px py pz pt : Pos} {kt k2 : Nat} {pt2 : Pos} (hi : X.N[i]? = some x) (hj : X.N[j]? = some y) (hk : X.N[k]? = some z) (hij : i ≠ j) (hik : i ≠ k) (hjk : j ≠ k) (hx : X.env.scope.names.lookup x = some .local) (hy : X.env.scope.names.lookup y = some .local) (hz : X.env.scope.names.lookup z = some .local)
    (ha : PE X a (tR (pX X C) X.K fr)) (hb : PE X b (tR (pX X C) X.K fr2)) (hd : PE X d (tR (pX X C) X.K fr3)) (he : starEach [a, b, d] X.env = (false, eval a X.env) :: starEach [b, d] X.env) (he2 : starEach [b, d] X.env = (false, eval b X.env) :: starEach [d] X.env) (he3 : starEach [d] X.env = (false, eval d X.env) :: starEach [] X.env)
    (hw : swappedStores [.Tuple [.Name x px, .Name y py, .Name z pz] kt pt] (.Tuple [a, b, d] k2 pt2) X.env = pure (some [x, y, z])) :
    PS X (.Assign [.Tuple [.Name x px, .Name y py, .Name z pz] kt pt] (.Tuple [a, b, d] k2 pt2) pos) (tS (pX X C) X.K H0 fun ρ => (fr ρ).bind fun u => (fr2 ρ).bind fun v => (fr3 ρ).map fun w => .nx (((ρ.set i u).set j v).set k w)) := by
  refine PSwk (ps_par3 c.calm c.nd hi hj hk hij hik hjk hx hy hz (pa_cons ha (pa_cons hb (pa_cons hd pa_nil he3) he2) he) hw rfl) fun E σ H ⟨ρ, o, F, hf, q⟩ => ?_
  obtain ⟨u, e1, hf⟩ := bnd hf
  obtain ⟨w, e2, hf⟩ := bnd hf
  obtain ⟨t, e3, e4⟩ := mpd hf
  subst e4
  refine ⟨ρ, u, F.env, e1, fun v1 H1 s1 n1 => ⟨ρ, w, F.env.same s1, e2, fun v2 H2 s2 n2 => ⟨ρ, t, F.env.same (s1.trans s2), e3, fun v3 H3 s3 n3 => ⟨v1, v2, v3, rfl, ?_⟩⟩⟩⟩
  have F1 := ((F.up s1).put (i := i) n1 F.same (off_new F n1))
  have F2 := ((F1.up s2).put (i := j) n2 (F.same.trans s1) (off_new F1 n2))
  have F3 := ((F2.up s3).put (i := k) n3 ((F.same.trans s1).trans s2) (off_new F2 n3))
  exact q _ H3 ((s1.trans s2).trans s3).kp F3
/-! numbers added on -/
theorem ip_of {o : Op2} : PIp X (opPy o) (rD (pX X C) X.K (augD o)) := by
  intro pins s σ H x y v u Q I rx ry ⟨d, e, r, hd, he, hf, g⟩
  unfold augD at hf
  split at hf
  · cases hf
    rw [rpInt] at hd he
    exact iop_add pins s σ H x y v u Q I rx ry ⟨_, _, hd, he, g.int⟩
  · cases hf
    rw [rpInt] at hd he
    exact iop_sub pins s σ H x y v u Q I rx ry ⟨_, _, hd, he, g.int⟩
  · split at hf
    · rename_i hz
      cases hf
      rw [rpInt] at hd he
      exact iop_mul pins s σ H x y v u Q I rx ry ⟨_, _, hd, he, hz, g.int⟩
    · cases hf
  · split at hf
    · rename_i hz
      cases hf
      rw [rpInt] at hd he
      exact iop_fdivW pins s σ H x y v u Q I rx ry ⟨_, _, hd, he, hz, g.int⟩
    · cases hf
  · split at hf
    · rename_i hz
      cases hf
      rw [rpInt] at hd he
      exact iop_mod pins s σ H x y v u Q I rx ry ⟨_, _, hd, he, hz, g.int⟩
    · cases hf
  · cases hf
theorem rs_aug (c : Ctx X C) {pos' : Pos} {o : Op2} (hi : X.N[i]? = some x) (hx : Loc X.env.scope x) (hf : X.fn x = true ∨ X.env.scope.names.lookup x = some .local) (he : PE X e (tE (pX X C) X.K fa)) :
    PS X (.AugAssign (.Name x pos') (opPy o) e pos) (tS (pX X C) X.K H0 fun ρ => (ρ.get i).bind fun x => (fa ρ).bind fun y => (augD o x y).map fun z => .nx (ρ.set i (.fz z))) := by
  refine PSwk (ps_aug c.nd hi hx he (ip_of (C := C) (o := o)) hf) fun E σ H ⟨ρ, o', F, hf, q⟩ => ?_
  obtain ⟨a, e1, hf⟩ := bnd hf
  obtain ⟨b, e2, hf⟩ := bnd hf
  obtain ⟨r, e3, e4⟩ := mpd hf
  subst e4
  obtain ⟨v, e5, r5⟩ := F.env.get e1
  refine ⟨v, e5, ρ, b, F.env, e2, fun u H1 s1 r1 => ⟨a, b, r, Rp.keep s1.kp _ _ r5, r1, e3, fun w H2 s2 r2 => ?_⟩⟩
  have F2 := F.up (s1.trans s2)
  exact q _ H2 (s1.trans s2).kp (F2.sub (F2.env.set r2) OwSub.set)
end
end PL


set_option Elab.async false
set_option linter.all false
set_option maxRecDepth 100000
/-! PLu: statements, further. -/
namespace PL
open PySem PySem.Spec PyProof.Rows L2
section
variable {X : Cx} {C : Addr → Option (List V)} {H0 : Hp} {pos : Pos} {e : Expr} {fa : RE D} {T : List D}
/-- an owned slot's new content -/
theorem Fr.own_set {p : PrW} {K : PySem.W.Frag} {H0 H H1 : Hp} {ρ : En} {σ : L2.St} {i : Nat} {d d' : D} {a : Addr} {o : HO} (F : Fr p K H0 H1 ρ σ) (hi : ρ.own i = some d) (ha : σ[i]? = some (some (.ref a))) (h' : Ow p K (upd H1 a o) d' a) : Fr p K H0 (upd H1 a o) (ρ.set i (.ow d')) σ ∧ Kp H1 (upd H1 a o) := by
  obtain ⟨o1, h1, mu⟩ := ow_some (own_env F.env hi ha)
  have kp : Kp H1 (upd H1 a o) := kp_upd h1 mu
  have n0 : H0 a = none := F.fresh i d a hi ha
  refine ⟨⟨⟨by rw [List.length_set]; exact F.env.len, fun j sl e => ?_⟩, same_off n0 F.same, fun j e b g1 g2 => ?_, fun j k e1 e2 b g1 g2 g3 g4 => ?_⟩, kp⟩
  · by_cases hj : i = j
    · subst hj
      by_cases hl : i < ρ.length
      · rw [List.getElem?_set_self hl] at e
        cases e
        exact ⟨some (.ref a), ha, a, rfl, h'⟩
      · rw [List.getElem?_eq_none (by simpa using hl)] at e
        cases e
    · rw [List.getElem?_set_ne hj] at e
      obtain ⟨v, g1, g2⟩ := F.env.at_ j sl e
      refine ⟨v, g1, ?_⟩
      cases sl with
      | un => trivial
      | fz d1 =>
        obtain ⟨w, g3, g4⟩ := g2
        exact ⟨w, g3, Rp.keep kp _ _ g4⟩
      | ow d1 =>
        obtain ⟨b, g3, g4⟩ := g2
        subst g3
        have oj : ρ.own j = some d1 := by unfold En.own; rw [e]
        have hb : b ≠ a := fun z => hj (F.apart i j d d1 a hi oj ha (z ▸ g1))
        refine ⟨b, rfl, ?_⟩
        cases d1 with
        | list ds =>
          obtain ⟨xs, k1, k2⟩ := g4
          exact ⟨xs, by rw [upd_ne hb]; exact k1, RpA.keep kp _ _ k2⟩
        | dict kvs =>
          rcases g4 with ⟨kk, k1, k2⟩ | ⟨kt, k0, k1, k2⟩
          · exact .inl ⟨kk, by rw [upd_ne hb]; exact k1, RpD.keep kp _ _ k2⟩
          · exact .inr ⟨kt, k0, by rw [upd_ne hb]; exact k1, RpT.keep kp _ _ k2⟩
        | _ => exact g4.elim
  · rcases own_set_ow g1 with ⟨hj, _⟩ | ⟨hj, g1⟩
    · subst hj
      rw [ha] at g2
      cases g2
      exact n0
    · exact F.fresh j e b g1 g2
  · rcases own_set_ow g1 with ⟨hj, _⟩ | ⟨hj, g1⟩ <;> rcases own_set_ow g2 with ⟨hk, _⟩ | ⟨hk, g2⟩
    · rw [← hj, ← hk]
    · exact F.apart j k d e2 b (hj ▸ hi) g2 g3 g4
    · exact F.apart j k e1 d b g1 (hk ▸ hi) g3 g4
    · exact F.apart j k e1 e2 b g1 g2 g3 g4
theorem appD_eq {x d z : D} (h : appD x d = some z) : ∃ ds, x = .list ds ∧ z = .list (ds ++ [d]) ∧ ds.length < sizeLine := by
  cases x <;> simp only [appD] at h <;> try (cases h; done)
  split at h
  · rename_i hz
    cases h
    have z := of_decide_eq_true hz
    exact ⟨_, rfl, rfl, by omega⟩
  · cases h
theorem dputD_eq {x y d z : D} (h : dputD T x y d = some z) : ∃ kvs q, x = .dict kvs ∧ keyK T kvs y = some q ∧ z = .dict (putD T kvs y q d) ∧ kvs.length < sizeLine := by
  cases x <;> simp only [dputD] at h <;> try (cases h; done)
  obtain ⟨q, e1, e2⟩ := bnd h
  split at e2
  · rename_i hz
    cases e2
    have z := of_decide_eq_true hz
    exact ⟨_, q, rfl, e1, rfl, by omega⟩
  · cases e2
theorem rs_app {i : Nat} {x : Str} {p1 apos cpos : Pos} (hN : X.N[i]? = some x) (hv : Vis X.env.scope x) (hd0 : (x == ("__debug__" : Str)) = false) (hcd : (x == ("__classdict__" : Str)) = false) (he : PE X e (tE (pX X C) X.K fa)) (hl : apos.endLine = cpos.line) (hst : starEach [e] X.env = (false, eval e X.env) :: starEach [] X.env) :
    PS X (.Expr (.Call (.Attribute (.Name x p1) "append" apos) [e] [] cpos) pos) (tS (pX X C) X.K H0 fun ρ => (ρ.own i).bind fun x => (fa ρ).bind fun d => (appD x d).map fun z => .nx (ρ.set i (.ow z))) := by
  have pe : PE X (.Call (.Attribute (.Name x p1) "append" apos) [e] [] cpos) (fun σ H Q => tVar i σ H fun v H1 => (∃ l, v = .ref l ∧ ∃ xs, H1 l = some (.lst xs)) ∧ tE (pX X C) X.K fa σ H1 fun y H2 => rAppend v [y] H2 Q) := by
    refine ⟨fun pins s σ H Q I h => ?_⟩
    refine wpAny_Call_method (T := "list") (id := "list.append") rfl (by rw [hst]; rfl) (by rw [hl]; simp) F.plainAttrs_list F.slot_list_append F.type_list_append (thn ((pe_var hN hv hd0 hcd).run pins s σ H _ I h) fun u s1 ⟨v, H1, I1, rx, ⟨l, ev, xs, hxs⟩, q1⟩ => ?_)
    subst ev
    obtain rfl : u = Value.ref l := rx
    obtain ⟨_, its, n, _, e1⟩ := (show ObjOk X.prog X.w H1 s1.heap l (.lst xs) from I1.hok l _ hxs)
    refine ⟨⟨_, e1, rfl⟩, fun a ha => by cases ha; exact ⟨_, e1, rfl⟩, ?_⟩
    rw [hst]
    refine Calls.callWith_builtin rfl (Calls.evalArgs_plain (Calls.spliced_cons (thn (he.run pins s1 σ H1 _ I1 q1) fun iv s2 ⟨y, H2, I2, ry, q2⟩ => Calls.spliced_nil ?_)))
    exact mt_append pins s2 σ H2 (.ref l) [y] (.ref l) [iv] Q I2 rfl (.cons ry .nil) q2
  refine PSwk (ps_expr pe) fun E σ H ⟨ρ, o, F, hf, q⟩ => ?_
  obtain ⟨x, e1, hf⟩ := bnd hf
  obtain ⟨d, e2, hf⟩ := bnd hf
  obtain ⟨z, e3, e4⟩ := mpd hf
  subst e4
  obtain ⟨a, ha, ow⟩ := F.env.own e1
  obtain ⟨ds, ex, ez, hz⟩ := appD_eq e3
  subst ex ez
  obtain ⟨xs, h1, h2⟩ := ow
  refine ⟨_, ha, ⟨a, rfl, xs, h1⟩, ρ, d, F.env, e2, fun v H1 s1 r1 => ?_⟩
  refine ⟨a, xs, v, rfl, rfl, s1 _ _ h1, by rw [h2.len]; exact hz, ?_⟩
  have kp : Kp H1 (upd H1 a (.lst (xs ++ [v]))) := kp_upd (s1 _ _ h1) True.intro
  obtain ⟨F2, k2⟩ := Fr.own_set (H := H) (o := .lst (xs ++ [v])) (d' := .list (ds ++ [d])) (F.up s1) e1 ha ⟨xs ++ [v], upd_same, RpA.app (RpA.keep (s1.kp.trans kp) _ _ h2) (.cons (Rp.keep kp _ _ r1) .nil)⟩
  exact q σ _ (s1.kp.trans k2) F2
theorem rs_put (c : Ctx X C) (tk : TOk (pX X C) T) {i : Nat} {x : Str} {p1 p2 : Pos} {k : Expr} {fk : RE D} (hN : X.N[i]? = some x) (hv : Vis X.env.scope x) (hd0 : (x == ("__debug__" : Str)) = false) (hcd : (x == ("__classdict__" : Str)) = false) (he : PE X e (tE (pX X C) X.K fa)) (hk : PE X k (tE (pX X C) X.K fk)) (hs : swapsWith e (some (.Subscript (.Name x p1) k p2)) pos.line X.env = pure false) :
    PS X (.Assign [.Subscript (.Name x p1) k p2] e pos) (tS (pX X C) X.K H0 fun ρ => (ρ.own i).bind fun x => (fa ρ).bind fun d => (fk ρ).bind fun y => (dputD T x y d).map fun z => .nx (ρ.set i (.ow z))) := by
  have hu := c.hu
  refine ⟨fun pins s σ H E I ⟨ρ, o, F, hf, q⟩ => ?_⟩
  obtain ⟨x, e1, hf⟩ := bnd hf
  obtain ⟨d, e2, hf⟩ := bnd hf
  obtain ⟨y, e3, hf⟩ := bnd hf
  obtain ⟨z, e4, e5⟩ := mpd hf
  subst e5
  obtain ⟨a, ha, ow⟩ := F.env.own e1
  obtain ⟨kvs, qk, ex, e6, ez, hl⟩ := dputD_eq e4
  subst ex ez
  refine wpAny_Assign_Subscript (thn (he.run pins s σ H (fun v H1 => Same H H1 ∧ Rp (pX X C) X.K H1 d v) I ⟨ρ, d, F.env, e2, fun v H1 s1 r1 => ⟨s1, r1⟩⟩) fun r s1 ⟨v, H1, I1, rv, sm1, r1⟩ => thn ((pe_var hN hv hd0 hcd).run pins s1 σ H1 (fun v H2 => v = .ref a ∧ H2 = H1) I1 ⟨_, ha, rfl, rfl⟩) fun u s2 ⟨w, H2, I2, rw', ew, eH⟩ =>
    thn (hk.run pins s2 σ H2 (fun v H3 => Same H2 H3 ∧ Rp (pX X C) X.K H3 y v) I2 ⟨ρ, y, by rw [eH]; exact F.env.same sm1, e3, fun v H1 s1 r1 => ⟨s1, r1⟩⟩) fun iv s3 ⟨yk, H3, I3, ry, sm3, r3⟩ => ?_) hs
  subst ew eH
  obtain rfl : u = Value.ref a := rw'
  have sm := sm1.trans sm3
  have F3 := F.up sm
  have ow3 := ow.same sm
  unfold keyK at e6
  obtain ⟨q', e7, e8⟩ := bnd e6
  split at e8
  · rename_i hb
    cases e8
    simp only [Bool.and_eq_true, Bool.not_eq_true'] at hb
    obtain ⟨hb0, hb⟩ := hb
    have r1' := Rp.keep sm3.kp _ _ r1
    cases qk with
    | k key =>
      obtain ⟨ey, ed⟩ := rp_key1 r3 e7
      subst ey ed
      have hK : ∃ kk, H3 a = some (.dK kk) ∧ RpD (pX X C) X.K H3 kvs kk := by
        rcases ow3 with ⟨kk, h1, h2⟩ | ⟨kt, h0, h1, h2⟩
        · exact ⟨kk, h1, h2⟩
        · have e := kdAll_k h2 hb
          subst e
          simp only [RpT] at h2
          exact absurd h2 h0
      obtain ⟨kk, h1, h2⟩ := hK
      refine d_setItem (by omega) I3 (DPut.k h1 (by rw [rpD_len h2]; exact hl)) ry rv fun s4 I4 => ?_
      have kp : Kp H3 (upd H3 a (.dK (putK kk key v))) := kp_upd h1 True.intro
      obtain ⟨F4, k4⟩ := Fr.own_set (H := H) (o := .dK (putK kk key v)) (d' := .dict (putD T kvs (keyD key) (.k key) d)) F3 e1 ha (.inl ⟨_, upd_same, rpD_put (RpD.keep kp _ _ h2) (Rp.keep kp _ _ r1')⟩)
      exact ⟨σ, _, I4, q σ _ (sm.kp.trans k4) F4⟩
    | t ks =>
      obtain ⟨b, ey, hb2, ed⟩ := rp_key tk r3 e7
      subst ey ed
      have hT : ∃ kt, Inv X pins σ (upd H3 a (.dT kt)) s3 ∧ RpT (pX X C) X.K H3 kvs kt := by
        rcases ow3 with ⟨kk, h1, h2⟩ | ⟨kt, h0, h1, h2⟩
        · have e := kdAll_t h2 hb
          subst e
          simp only [RpD] at h2
          subst h2
          exact ⟨[], asT I3 h1, by simp only [RpT]⟩
        · refine ⟨kt, ?_, h2⟩
          have e : upd H3 a (.dT kt) = H3 := by
            funext b
            by_cases hb : b = a
            · subst hb; rw [upd_same, h1]
            · rw [upd_ne hb]
          rw [e]
          exact I3
      obtain ⟨kt, I3', h2⟩ := hT
      obtain ⟨o3, h3, mu3⟩ := ow_some ow3
      have kpt : Kp H3 (upd H3 a (.dT kt)) := kp_upd h3 mu3
      have hbt : (upd H3 a (.dT kt)) b = some (.tup (ks.map kV)) := kpt.1 _ _ hb2
      refine d_setItem (by omega) I3' (DPut.t upd_same hbt (by rw [rpT_len h2]; exact hl)) ry rv fun s4 I4 => ?_
      rw [upd_upd] at I4
      have kp : Kp H3 (upd H3 a (.dT (putK kt ks v))) := kp_upd h3 mu3
      obtain ⟨F4, k4⟩ := Fr.own_set (H := H) (o := .dT (putK kt ks v)) (d' := .dict (putD T kvs (.tuple (ks.map keyD)) (.t ks) d)) F3 e1 ha (.inr ⟨_, putK_ne, upd_same, rpT_put (RpT.keep kp _ _ h2) hb (Rp.keep kp _ _ r1')⟩)
      exact ⟨σ, _, I4, q σ _ (sm.kp.trans k4) F4⟩
    | b z => cases hb0
  · cases e8
/-! plain ones -/
theorem rs_ret (he : PE X e (tE (pX X C) X.K fa)) : PS X (.Return (some e) pos) (tS (pX X C) X.K H0 fun ρ => (fa ρ).map Out.rt) := PSwk (ps_ret he) fun E σ H ⟨ρ, o, F, hf, q⟩ => by
  obtain ⟨d, e1, e2⟩ := mpd hf
  subst e2
  exact ⟨ρ, d, F.env, e1, fun v H1 s1 r1 => q v H1 s1.kp (F.same.trans s1) r1⟩
theorem rs_retN : PS X (.Return none pos) (tS (pX X C) X.K H0 fun _ => some (.rt .none)) := PSwk ps_retN fun E σ H ⟨ρ, o, F, hf, q⟩ => by
  cases hf
  exact q .non H (Kp.refl H) F.same (by simp only [Rp])
theorem rs_ex (he : PE X e (tE (pX X C) X.K fa)) (hs : swapsWith e none pos.line X.env = pure false) : PS X (.Expr e pos) (tS (pX X C) X.K H0 fun ρ => (fa ρ).map fun _ => .nx ρ) := PSwk (ps_expr he hs) fun E σ H ⟨ρ, o, F, hf, q⟩ => by
  obtain ⟨d, e1, e2⟩ := mpd hf
  subst e2
  exact ⟨ρ, d, F.env, e1, fun v H1 s1 r1 => q σ H1 s1.kp (F.up s1)⟩
theorem rs_raise {st : Stmt} : PS X st (tS (pX X C) X.K H0 fun _ => none) := PSwk ps_never fun E σ H ⟨ρ, o, F, hf, q⟩ => by cases hf
theorem rs_pass : PS X (.Pass pos) (tS (pX X C) X.K H0 fun ρ => some (.nx ρ)) := PSwk ps_pass fun E σ H ⟨ρ, o, F, hf, q⟩ => by
  cases hf
  exact q σ H (Kp.refl H) F
theorem rs_brk : PS X (.Break pos) (tS (pX X C) X.K H0 fun ρ => some (.bk ρ)) := PSwk ps_break fun E σ H ⟨ρ, o, F, hf, q⟩ => by
  cases hf
  exact q σ H (Kp.refl H) F
theorem rs_cont : PS X (.Continue pos) (tS (pX X C) X.K H0 fun ρ => some (.ct ρ)) := PSwk ps_continue fun E σ H ⟨ρ, o, F, hf, q⟩ => by
  cases hf
  exact q σ H (Kp.refl H) F
theorem rs_ife {t : Expr} {a b : List Stmt} {ft : RE D} {f1 f2 : En → Option Out} (ht : PT X t (tT (pX X C) X.K fun ρ => asB (ft ρ))) (ha : PSs X a (tS (pX X C) X.K H0 f1)) (hb : PSs X b (tS (pX X C) X.K H0 f2)) : PS X (.If t a b pos) (tS (pX X C) X.K H0 fun ρ => (asB (ft ρ)).bind fun t => if t = true then f1 ρ else f2 ρ) := PSwk (ps_if ht ha hb) fun E σ H ⟨ρ, o, F, hf, q⟩ => by
  obtain ⟨x, e1, hf⟩ := bnd hf
  refine ⟨ρ, x, F.env, e1, fun H1 s1 => ?_⟩
  cases x with
  | true => exact ⟨ρ, o, F.up s1, hf, q.mono s1.kp⟩
  | false => exact ⟨ρ, o, F.up s1, hf, q.mono s1.kp⟩
theorem rss_nil : PSs X [] (tS (pX X C) X.K H0 fun ρ => some (.nx ρ)) := PSswk pss_nil fun E σ H ⟨ρ, o, F, hf, q⟩ => by
  cases hf
  exact q σ H (Kp.refl H) F
def thenO (g : En → Option Out) : Out → Option Out
  | .nx ρ1 => g ρ1
  | r => some r
theorem rss_cons {st : Stmt} {r : List Stmt} {f g : En → Option Out} (h1 : PS X st (tS (pX X C) X.K H0 f)) (h2 : PSs X r (tS (pX X C) X.K H0 g)) : PSs X (st :: r) (tS (pX X C) X.K H0 fun ρ => (f ρ).bind (thenO g)) := PSswk (pss_cons h1 h2) fun E σ H ⟨ρ, o, F, hf, q⟩ => by
  obtain ⟨o1, e1, hf⟩ := bnd hf
  refine ⟨ρ, o1, F, e1, ?_⟩
  cases o1 with
  | nx ρ1 => exact fun σ' H' k' F' => ⟨ρ1, o, F', hf, q.mono k'⟩
  | rt d => cases hf; exact q
  | bk ρ1 => cases hf; exact q
  | ct ρ1 => cases hf; exact q
/-! loops -/
def loopO (k : En → Option Out) : Out → Option Out
  | .nx ρ1 => k ρ1
  | .ct ρ1 => k ρ1
  | .bk ρ1 => some (.nx ρ1)
  | .rt x => some (.rt x)
theorem forL_cons (step : D → En → Option Out) (d : D) (ds : List D) (ρ : En) : forL step (d :: ds) ρ = (step d ρ).bind (loopO (forL step ds)) := by
  rfl
theorem rs_for (c : Ctx X C) {tg iter : Expr} {body : List Stmt} {P : Pat} {y : Bool} {fi : RE (List D)} {fb : En → Option Out} (hp : PassesOwn (model X.prog X.w) X.A X.env X.xe) (hi : PI X tg iter (tI (pX X C) X.K fi y)) (hg : PG X tg (tZ (pX X C) X.K y P)) (hb : PSs X body (tS (pX X C) X.K H0 fb)) (hs : ∀ x, foldedSetIterable iter X.env x = pure x) :
    PS X (.For tg iter body [] pos) (tS (pX X C) X.K H0 fun ρ => (fi ρ).bind fun ds => forL (fun d ρ1 => (bindP P d ρ1).bind fb) ds ρ) := by
  refine PSwk (ps_for hp c.calm hi hg hb hs) fun E σ H ⟨ρ, o, F, hf, q⟩ => ?_
  obtain ⟨ds, e1, hf⟩ := bnd hf
  refine ⟨ρ, ds, F.env, e1, fun J H1 s1 g => ?_⟩
  obtain ⟨sz, G, Y, wk, hG, hY⟩ := g
  refine for_it wk (fun i σ2 H2 => (Kp H1 H2 ∧ ∃ ρ2, Fr (pX X C) X.K H0 H2 ρ2 σ2 ∧ forL (fun d ρ1 => (bindP P d ρ1).bind fb) (ds.drop i) ρ2 = some o)) ?_ ?_ ?_ ?_
  · exact ⟨Kp.refl H1, ρ, F.up s1, hf⟩
  · exact fun i σ2 H2 _ ⟨k2, _⟩ => hG H2 k2
  · intro i x σ2 H2 H3 hi' ⟨k2, ρ2, F2, hf2⟩ hy
    have ed : ds[i]? = some ds[i] := List.getElem?_eq_getElem hi'
    obtain ⟨s3, yd⟩ := hY i H2 x H3 _ k2 ed hy
    rw [List.drop_eq_getElem_cons hi', forL_cons] at hf2
    obtain ⟨o1, b1, b2⟩ := bnd hf2
    obtain ⟨ρ3, b3, b4⟩ := bnd b1
    have F3 := F2.up s3
    refine ⟨ρ2, ds[i], ρ3, F3.env, yd, b3, fun σ4 E4 ow _ => ⟨ρ3, o1, F3.sub E4 ow, b4, ?_⟩⟩
    have k13 : Kp H1 H3 := k2.trans s3.kp
    cases o1 with
    | nx ρ5 => exact fun σ5 H5 k5 F5 => ⟨k13.trans k5, ρ5, F5, b2⟩
    | ct ρ5 => exact fun σ5 H5 k5 F5 => ⟨k13.trans k5, ρ5, F5, b2⟩
    | bk ρ5 =>
      cases b2
      exact fun σ5 H5 k5 F5 => q σ5 H5 ((s1.kp.trans k13).trans k5) F5
    | rt d =>
      cases b2
      exact fun v H5 k5 sm r5 => q v H5 ((s1.kp.trans k13).trans k5) sm r5
  · rintro σ2 H2 ⟨k2, ρ2, F2, hf2⟩
    rw [List.drop_length] at hf2
    simp only [forL, Option.some.injEq] at hf2
    subst hf2
    exact q σ2 H2 (s1.kp.trans k2) F2
theorem whL_succ (t : En → Option Bool) (b : En → Option Out) (n : Nat) (ρ : En) : whL t b (n + 1) ρ = (t ρ).bind fun x => if x = true then (b ρ).bind (loopO (whL t b n)) else some (.nx ρ) := by
  rfl
theorem rs_whl {t : Expr} {body : List Stmt} {ft : RE D} {fb : En → Option Out} {n : Nat} (hp : PassesOwn (model X.prog X.w) X.A X.env X.xe) (ht : PT X t (tT (pX X C) X.K fun ρ => asB (ft ρ))) (hb : PSs X body (tS (pX X C) X.K H0 fb)) :
    PS X (.While t body [] pos) (tS (pX X C) X.K H0 fun ρ => whL (fun ρ1 => asB (ft ρ1)) fb n ρ) := by
  refine PSwk (ps_while hp ht hb) fun E σ H ⟨ρ, o, F, hf, q⟩ => ?_
  refine ⟨fun m σ2 H2 => Kp H H2 ∧ ∃ ρ2, Fr (pX X C) X.K H0 H2 ρ2 σ2 ∧ whL (fun ρ1 => asB (ft ρ1)) fb m ρ2 = some o, ⟨n, Kp.refl H, ρ, F, hf⟩, fun m σ2 H2 ⟨k2, ρ2, F2, hf2⟩ => ?_⟩
  cases m with
  | zero => simp [whL] at hf2
  | succ m =>
    rw [whL_succ] at hf2
    obtain ⟨x, e1, hf2⟩ := bnd hf2
    refine ⟨ρ2, x, F2.env, e1, fun H3 s3 => ?_⟩
    cases x with
    | false =>
      cases hf2
      exact q σ2 H3 (k2.trans s3.kp) (F2.up s3)
    | true =>
      obtain ⟨o1, b1, b2⟩ := bnd hf2
      refine ⟨fun σ' H' => Kp H H' ∧ ∃ ρ', Fr (pX X C) X.K H0 H' ρ' σ' ∧ whL (fun ρ1 => asB (ft ρ1)) fb m ρ' = some o, fun σ' H' h' => ⟨m, Nat.lt_succ_self m, h'⟩, ρ2, o1, F2.up s3, b1, ?_⟩
      have k13 : Kp H H3 := k2.trans s3.kp
      cases o1 with
      | nx ρ5 => exact fun σ5 H5 k5 F5 => ⟨k13.trans k5, ρ5, F5, b2⟩
      | ct ρ5 => exact fun σ5 H5 k5 F5 => ⟨k13.trans k5, ρ5, F5, b2⟩
      | bk ρ5 =>
        cases b2
        exact fun σ5 H5 k5 F5 => q σ5 H5 (k13.trans k5) F5
      | rt d =>
        cases b2
        exact fun v H5 k5 sm r5 => q v H5 (k13.trans k5) sm r5
/-! a list or dict of the def's own is given out of hand -/
theorem rs_fz {st : Stmt} {f : En → Option Out} {i : Nat} (h : PS X st (tS (pX X C) X.K H0 f)) : PS X st (tS (pX X C) X.K H0 fun ρ => f (freeze ρ i)) := by
  refine ⟨fun pins s σ H E I ⟨ρ, o, F, hf, q⟩ => ?_⟩
  cases ho : ρ.own i with
  | none =>
    have e : freeze ρ i = ρ := by
      unfold freeze
      unfold En.own at ho
      split
      · rename_i d e; rw [e] at ho; cases ho
      · rfl
    have hf : f (freeze ρ i) = some o := hf
    rw [e] at hf
    exact h.run pins s σ H E I ⟨ρ, o, F, hf, q⟩
  | some d =>
    obtain ⟨a, ha, ow⟩ := F.env.own ho
    obtain ⟨ob, h1, mu⟩ := ow_some ow
    obtain ⟨od, I2⟩ := I.lock h1 mu
    have kp : Kp H (upd H a (.frz od ob)) := kp_upd h1 mu
    have ef : freeze ρ i = ρ.set i (.fz d) := by
      unfold freeze
      unfold En.own at ho
      split at ho
      · rename_i d' e; cases ho; rfl
      · cases ho
    have n0 := F.fresh i d a ho ha
    have rp : Rp (pX X C) X.K (upd H a (.frz od ob)) d (.ref a) := by
      cases d with
      | list ds =>
        obtain ⟨xs, g1, g2⟩ := ow
        rw [h1] at g1
        cases g1
        exact rpLst.mpr ⟨a, xs, rfl, .inl ⟨od, upd_same⟩, RpA.keep kp _ _ g2⟩
      | dict kvs =>
        simp only [Rp]
        rcases ow with ⟨kk, g1, g2⟩ | ⟨kt, g0, g1, g2⟩
        · rw [h1] at g1
          cases g1
          exact ⟨a, rfl, .inl ⟨od, kk, upd_same, RpD.keep kp _ _ g2⟩⟩
        · rw [h1] at g1
          cases g1
          exact ⟨a, rfl, .inr (.inl ⟨od, kt, g0, upd_same, RpT.keep kp _ _ g2⟩)⟩
      | _ => exact ow.elim
    have hf : f (freeze ρ i) = some o := hf
    rw [ef] at hf
    refine h.run pins s σ _ E I2 ⟨ρ.set i (.fz d), o, ⟨⟨by rw [List.length_set]; exact F.env.len, fun j sl e => ?_⟩, same_off n0 F.same, fun j e b g1 g2 => F.fresh j e b (own_set_fz g1).2 g2, fun j k e1 e2 b g1 g2 g3 g4 => F.apart j k e1 e2 b (own_set_fz g1).2 (own_set_fz g2).2 g3 g4⟩, hf, q.mono kp⟩
    by_cases hj : i = j
    · subst hj
      by_cases hl : i < ρ.length
      · rw [List.getElem?_set_self hl] at e
        cases e
        exact ⟨some (.ref a), ha, .ref a, rfl, rp⟩
      · rw [List.getElem?_eq_none (by simpa using hl)] at e
        cases e
    · rw [List.getElem?_set_ne hj] at e
      obtain ⟨v, g1, g2⟩ := F.env.at_ j sl e
      refine ⟨v, g1, ?_⟩
      cases sl with
      | un => trivial
      | fz d1 =>
        obtain ⟨w, g3, g4⟩ := g2
        exact ⟨w, g3, Rp.keep kp _ _ g4⟩
      | ow d1 =>
        obtain ⟨b, g3, g4⟩ := g2
        subst g3
        have oj : ρ.own j = some d1 := by unfold En.own; rw [e]
        have hb : b ≠ a := fun z => hj (F.apart i j d d1 a ho oj ha (z ▸ g1))
        refine ⟨b, rfl, ?_⟩
        cases d1 with
        | list ds =>
          obtain ⟨xs, k1, k2⟩ := g4
          exact ⟨xs, by rw [upd_ne hb]; exact k1, RpA.keep kp _ _ k2⟩
        | dict kvs =>
          rcases g4 with ⟨kk, k1, k2⟩ | ⟨kt, k0, k1, k2⟩
          · exact .inl ⟨kk, by rw [upd_ne hb]; exact k1, RpD.keep kp _ _ k2⟩
          · exact .inr ⟨kt, k0, by rw [upd_ne hb]; exact k1, RpT.keep kp _ _ k2⟩
        | _ => exact g4.elim
end
end PL


set_option Elab.async false
set_option linter.all false
set_option maxRecDepth 100000
/-! PLv: which term of the small language a program's statement is; what is told of it holds. -/
namespace PL
open PySem PySem.Spec PyProof.Rows L2
def isComp : Expr → Bool
  | .ListComp _ _ _ _ => true
  | .SetComp _ _ _ _ => true
  | .DictComp _ _ _ _ _ => true
  | _ => false
/-- a comprehension that a local name takes on the same row -/
def swapT (sc : Scope) (tg val : Expr) : Bool := match tg with
  | .Name t tp => isComp val && decide (tp.line = val.pos.line) && knd sc t .local && (match val with
    | .ListComp _ _ s _ => !(s.names.any fun (n, k) => n == t && (k == .local || k == .cell))
    | .SetComp _ _ s _ => !(s.names.any fun (n, k) => n == t && (k == .local || k == .cell))
    | .DictComp _ _ _ s _ => !(s.names.any fun (n, k) => n == t && (k == .local || k == .cell))
    | _ => false)
  | _ => false
/-- a tuple of targets of which one is no local name on the first one's row -/
def swN (sc : Scope) (ts : List Expr) : Bool := ts.any fun t => match t with
  | .Name id pos => !(knd sc id .local) || !(pos.line == (ts.head?.map (·.pos.line)).getD 0)
  | _ => true
def parOk (tg val : Expr) (sc : Scope) : Bool := match tg, val with
  | .Tuple ts _ _, .Tuple vs _ _ => swN sc ts || vs.all (foldedForSure 8)
  | .List _ _, _ => false
  | _, _ => true
def mR (m : Mc) (sc : Scope) : Rx → Expr → Bool
  | .ex a, e => mE m sc a e
  | .nl as, e => match e with
    | .List es _ => decide (es.length ≤ 1000) && mEs m sc as es
    | _ => false
  | .nd, e => match e with
    | .Dict [] [] _ => true
    | _ => false
  | .nd2 k1 v1 k2 v2, e => match e with
    | .Dict [some a, some c] [b, d] _ => mE m sc k1 a && mE m sc v1 b && mE m sc k2 c && mE m sc v2 d
    | _ => false
def mN (m : Mc) (sc : Scope) (i : Nat) (x : Str) : Bool := decide (m.N[i]? = some x) && knd sc x .local
mutual
def mS (m : Mc) (sc : Scope) : St → Stmt → Bool
  | .asg p e, s => match s with
    | .Assign [tg] val _ => mE m sc e val && mP m sc p tg && (if swapT sc tg val then true else parOk tg val sc)
    | _ => false
  | .new i r, s => match s with
    | .Assign [.Name x _] val _ => locB m sc i x && mR m sc r val && !isComp val
    | _ => false
  | .par i j a b, s => match s with
    | .Assign [.Tuple [.Name x px, .Name y py] _ _] (.Tuple [l, r] _ _) _ => decide (i ≠ j) && mN m sc i x && mN m sc j y && (py.line == px.line) && decide (x ≠ y) && !(foldedForSure 8 l && foldedForSure 8 r) && !(constantsAlone 8 l && constantsAlone 8 r) && mR m sc a l && mR m sc b r
    | _ => false
  | .par3 i j k a b c, s => match s with
    | .Assign [.Tuple [.Name x px, .Name y py, .Name z pz] _ _] (.Tuple [l, r, t] _ _) _ => decide (i ≠ j) && decide (i ≠ k) && decide (j ≠ k) && mN m sc i x && mN m sc j y && mN m sc k z && (py.line == px.line) && (pz.line == px.line) && decide (x ≠ y) && decide (x ≠ z) && decide (y ≠ z) &&
      !(foldedForSure 8 l && (foldedForSure 8 r && foldedForSure 8 t)) && !(constantsAlone 8 l && (constantsAlone 8 r && constantsAlone 8 t)) && mR m sc a l && mR m sc b r && mR m sc c t
    | _ => false
  | .aug i o e, s => match s with
    | .AugAssign (.Name x _) op val _ => decide (op = opPy o) && locB m sc i x && mE m sc e val
    | _ => false
  | .app i e, s => match s with
    | .Expr (.Call (.Attribute (.Name x _) a apos) [l] [] cpos) _ => decide (a = "append") && visB m sc i x && decide (apos.endLine = cpos.line) && mE m sc e l
    | _ => false
  | .put i k e, s => match s with
    | .Assign [.Subscript (.Name x _) kx _] val _ => visB m sc i x && mE m sc k kx && mE m sc e val
    | _ => false
  | .ife c a b, s => match s with
    | .If t l r _ => mE m sc c t && mSs m sc a l && mSs m sc b r
    | _ => false
  | .for_ p it body, s => match s with
    | .For tg iter bd [] _ => (!it.pairs || isTup tg) && mI m sc it iter && mP m sc p tg && mSs m sc body bd
    | _ => false
  | .whl c body, s => match s with
    | .While t bd [] _ => mE m sc c t && mSs m sc body bd
    | _ => false
  | .ret e, s => match s with
    | .Return (some v) _ => mE m sc e v
    | _ => false
  | .retN, s => match s with
    | .Return none _ => true
    | _ => false
  | .ex e, s => match s with
    | .Expr v _ => mE m sc e v && !isComp v
    | _ => false
  | .raise_, _ => true
  | .pass, s => match s with
    | .Pass _ => true
    | _ => false
  | .brk, s => match s with
    | .Break _ => true
    | _ => false
  | .cont, s => match s with
    | .Continue _ => true
    | _ => false
  | .fz _ st, s => mS m sc st s
def mSs (m : Mc) (sc : Scope) : Ss → List Stmt → Bool
  | .nil, l => l.isEmpty
  | .cons s ss, l => match l with
    | st :: r => mS m sc s st && mSs m sc ss r
    | [] => false
end
section
variable {X : Cx} {C : Addr → Option (List V)} {H0 : Hp} {m : Mc} {sc : Scope} {G : Gb}
/-- a def's own context -/
structure Fc (X : Cx) (m : Mc) (sc : Scope) : Prop where
  s : Sc X m sc
  scp : X.env.scope = sc
  kind : sc.kind = .function
  fn : ∀ x, X.fn x = true
  po : PassesOwn (model X.prog X.w) X.A X.env X.xe
theorem Fc.blk (F : Fc X m sc) : X.env.blockKind = .function := by
  unfold Env.blockKind
  rw [F.scp, F.kind]
  rfl
theorem Fc.lk (F : Fc X m sc) {x : Str} (h : knd sc x .local = true) : X.env.scope.names.lookup x = some .local := by
  rw [F.scp]
  exact of_decide_eq_true h
theorem Fc.ko (F : Fc X m sc) {x : Str} (h : knd sc x .local = true) : X.env.kindOf x = some .local := F.lk h
theorem swaps_no {e : Expr} {t : Option Expr} {l : Nat} {env : Env} (h : isComp e = false) : swapsWith e t l env = pure false := by
  cases e <;> first | rfl | cases h
theorem swaps_sub {e a b : Expr} {p : Pos} {l : Nat} {env : Env} : swapsWith e (some (.Subscript a b p)) l env = pure false := by
  cases e <;> rfl
theorem swaps_tup {e : Expr} {ts : List Expr} {k : Nat} {p : Pos} {l : Nat} {env : Env} : swapsWith e (some (.Tuple ts k p)) l env = pure false := by
  cases e <;> rfl
theorem swaps_of (F : Fc X m sc) {tg val : Expr} {l : Nat} (ht : isTup tg = true ∨ ∃ x p, tg = .Name x p) (h : swapT sc tg val = false) : swapsWithSole [tg] val l X.env = pure false := by
  show swapsWith val (some tg) l X.env = pure false
  rcases ht with ht | ⟨x, p, e⟩
  · cases tg <;> first | (cases ht; done) | exact swaps_tup
  · subst e
    have hk : (X.env.kindOf x == some .local) = knd sc x .local := by
      unfold knd Env.kindOf
      rw [F.scp]
      by_cases z : sc.names.lookup x = some .local
      · rw [z]; rfl
      · rw [decide_eq_false z]
        exact beq_eq_false_iff_ne.mpr z
    have hb := F.blk
    cases val <;> first
      | rfl
      | (simp only [swapT, isComp, Bool.true_and, Expr.pos] at h
         unfold swapsWith
         simp only [hb, hk, Expr.pos]
         refine congrArg pure ?_
         rw [← h]
         simp only [beq_self_eq_true, Bool.true_and]
         rw [Bool.and_comm (knd sc x .local)]
         rfl)
theorem swapped_none (F : Fc X m sc) {tg val : Expr} (h : parOk tg val sc = true) : swappedStores [tg] val X.env = pure none := by
  cases tg with
  | Tuple ts k p =>
    cases val with
    | Tuple vs k2 p2 =>
      have h : (swN sc ts || vs.all (foldedForSure 8)) = true := h
      rw [Bool.or_eq_true] at h
      rcases h with h | h
      rotate_left
      · unfold swappedStores
        simp only [pure_bind]
        split
        · rfl
        · split
          · rfl
          · split
            · rfl
            · first | rfl | exact if_pos h
      have key : ((ts.filterMap fun t => match t with
        | .Name id pos => if X.env.kindOf id == some .local && pos.line == (ts.head?.map (·.pos.line)).getD 0 then some id else none
        | _ => none).length != ts.length) = true := by
        rw [bne_iff_ne]
        unfold swN at h
        have hk : ∀ id, (X.env.kindOf id == some .local) = knd sc id .local := fun id => by
          unfold knd Env.kindOf
          rw [F.scp]
          by_cases z : sc.names.lookup id = some .local
          · rw [z]; rfl
          · rw [decide_eq_false z]
            exact beq_eq_false_iff_ne.mpr z
        generalize (ts.head?.map (·.pos.line)).getD 0 = line at h ⊢
        have lt : ∀ l : List Expr, (l.any fun t => match t with
            | .Name id pos => !(knd sc id .local) || !(pos.line == line)
            | _ => true) = true → (l.filterMap fun t => match t with
            | .Name id pos => if X.env.kindOf id == some .local && pos.line == line then some id else none
            | _ => none).length < l.length := by
          intro l
          induction l with
          | nil => intro h; cases h
          | cons t r ih =>
            intro h
            have le := List.length_filterMap_le (fun t => match t with
              | Expr.Name id pos => if X.env.kindOf id == some .local && pos.line == line then some id else none
              | _ => none) r
            rw [List.any_cons, Bool.or_eq_true] at h
            rw [List.filterMap_cons, List.length_cons]
            rcases h with h | h
            · have z : (match t with
                | Expr.Name id pos => if X.env.kindOf id == some .local && pos.line == line then some id else none
                | _ => none) = none := by
                cases t <;> try rfl
                simp only [Bool.or_eq_true, Bool.not_eq_true'] at h
                simp only [hk]
                rcases h with h | h <;> rw [h] <;> simp
              rw [z]
              exact Nat.lt_succ_of_le le
            · have := ih h
              split
              · omega
              · rw [List.length_cons]; omega
        exact Nat.ne_of_lt (lt ts h)
      unfold swappedStores
      simp only [pure_bind]
      split
      · rfl
      · split
        · rfl
        · refine if_pos ?_
          rw [Bool.or_eq_true]
          exact .inl key
    | _ => rfl
  | List ts p => cases val <;> cases h
  | _ => rfl
theorem swapped_two (F : Fc X m sc) {x y : Str} {px py pt pt2 : Pos} {kt k2 : Nat} {a b : Expr} (hx : knd sc x .local = true) (hy : knd sc y .local = true) (hl : (py.line == px.line) = true) (hxy : x ≠ y) (h1 : (foldedForSure 8 a && foldedForSure 8 b) = false) (h2 : (constantsAlone 8 a && constantsAlone 8 b) = false) (sa : ∀ f p, a ≠ .Starred f p) (sb : ∀ f p, b ≠ .Starred f p) :
    swappedStores [.Tuple [.Name x px, .Name y py] kt pt] (.Tuple [a, b] k2 pt2) X.env = pure (some [x, y]) := by
  have st : ([a, b].any fun | .Starred .. => true | _ => false) = false := by
    have one : ∀ {e : Expr}, (∀ f p, e ≠ .Starred f p) → (match e with | .Starred .. => true | _ => false) = false := by
      intro e he
      cases e <;> first | rfl | exact absurd rfl (he _ _)
    rw [List.any_cons, List.any_cons, one sa, one sb]
    rfl
  have kx := F.ko hx
  have ky := F.ko hy
  have hb := F.blk
  have d2 : ([x, y] : List Str).eraseDups.length = 2 := by
    have e : (y == x) = false := beq_eq_false_iff_ne.mpr (Ne.symm hxy)
    rw [List.eraseDups_cons]
    simp [List.filter, e, List.eraseDups_cons]
  have nm : ([Expr.Name x px, Expr.Name y py].filterMap fun
      | .Name id pos => if X.env.kindOf id == some .local && pos.line == (([Expr.Name x px, Expr.Name y py].head?.map (·.pos.line)).getD 0) then some id else none
      | _ => none) = [x, y] := by
    simp only [List.filterMap_cons, List.filterMap_nil, kx, ky, List.head?_cons, Option.map_some, Option.getD_some, Expr.pos, hl, beq_self_eq_true, Bool.true_and, if_true]
  unfold swappedStores
  simp only [pure_bind, hb]
  refine (if_neg (fun h => by simp at h)).trans ?_
  refine (if_neg (fun h => by have z := h.symm.trans st; cases z)).trans ?_
  generalize hn : List.filterMap _ _ = names
  have en : names = [x, y] := hn.symm.trans nm
  subst en
  refine (if_neg (by rw [d2]; simp)).trans ?_
  refine (if_neg (by simpa using h1)).trans ?_
  refine (if_neg (by simpa using h2)).trans ?_
  rfl
theorem swapped_three (F : Fc X m sc) {x y z : Str} {px py pz pt pt2 : Pos} {kt k2 : Nat} {a b d : Expr} (hx : knd sc x .local = true) (hy : knd sc y .local = true) (hz : knd sc z .local = true) (hl : (py.line == px.line) = true) (hl2 : (pz.line == px.line) = true) (hxy : x ≠ y) (hxz : x ≠ z) (hyz : y ≠ z) (h1 : (foldedForSure 8 a && (foldedForSure 8 b && foldedForSure 8 d)) = false) (h2 : (constantsAlone 8 a && (constantsAlone 8 b && constantsAlone 8 d)) = false) (sa : ∀ f p, a ≠ .Starred f p) (sb : ∀ f p, b ≠ .Starred f p) (sd : ∀ f p, d ≠ .Starred f p) :
    swappedStores [.Tuple [.Name x px, .Name y py, .Name z pz] kt pt] (.Tuple [a, b, d] k2 pt2) X.env = pure (some [x, y, z]) := by
  have st : ([a, b, d].any fun | .Starred .. => true | _ => false) = false := by
    have one : ∀ {e : Expr}, (∀ f p, e ≠ .Starred f p) → (match e with | .Starred .. => true | _ => false) = false := by
      intro e he
      cases e <;> first | rfl | exact absurd rfl (he _ _)
    rw [List.any_cons, List.any_cons, List.any_cons, one sa, one sb, one sd]
    rfl
  have kx := F.ko hx
  have ky := F.ko hy
  have kz := F.ko hz
  have hb := F.blk
  have d2 : ([x, y, z] : List Str).eraseDups.length = 3 := by
    have e : (y == x) = false := beq_eq_false_iff_ne.mpr (Ne.symm hxy)
    have e2 : (z == x) = false := beq_eq_false_iff_ne.mpr (Ne.symm hxz)
    have e3 : (z == y) = false := beq_eq_false_iff_ne.mpr (Ne.symm hyz)
    rw [List.eraseDups_cons]
    simp [List.filter, e, e2, e3, List.eraseDups_cons]
  have nm : ([Expr.Name x px, Expr.Name y py, Expr.Name z pz].filterMap fun
      | .Name id pos => if X.env.kindOf id == some .local && pos.line == (([Expr.Name x px, Expr.Name y py, Expr.Name z pz].head?.map (·.pos.line)).getD 0) then some id else none
      | _ => none) = [x, y, z] := by
    simp only [List.filterMap_cons, List.filterMap_nil, kx, ky, kz, List.head?_cons, Option.map_some, Option.getD_some, Expr.pos, hl, hl2, beq_self_eq_true, Bool.true_and, if_true]
  unfold swappedStores
  simp only [pure_bind, hb]
  refine (if_neg (fun h => by simp at h)).trans ?_
  refine (if_neg (fun h => by have z := h.symm.trans st; cases z)).trans ?_
  generalize hn : List.filterMap _ _ = names
  have en : names = [x, y, z] := hn.symm.trans nm
  subst en
  refine (if_neg (by rw [d2]; simp)).trans ?_
  refine (if_neg (by simpa using h1)).trans ?_
  refine (if_neg (by simpa using h2)).trans ?_
  rfl
end
end PL


set_option Elab.async false
set_option linter.all false
set_option maxRecDepth 100000
/-! PLw: the match is sound, for statements and defs. -/
namespace PL
open PySem PySem.Spec PyProof.Rows L2
section
variable {X : Cx} {C : Addr → Option (List V)} {H0 : Hp} {m : Mc} {sc : Scope} {G : Gb}
theorem lc_wk {fi : RE (List D)} {y : Bool} {gg : TG} {tt : TT} {te : TE} {vs : List Nat} {σ : L2.St} {H : Hp} {Q Q' : VK} (h : tLc (tI (pX X C) X.K fi y) gg tt te vs σ H Q) (w : ∀ v H', Q v H' → Q' v H') : tLc (tI (pX X C) X.K fi y) gg tt te vs σ H Q' := by
  obtain ⟨ρ, ds, E, hf, q⟩ := h
  refine ⟨ρ, ds, E, hf, fun J H' s g a ha => ?_⟩
  obtain ⟨W, w0, st⟩ := q J H' s g a ha
  exact ⟨W, w0, fun i m H hW => (st i m H hW).imp (fun z => ⟨z.1, w _ _ z.2⟩) id⟩
theorem sR (c : Ctx X C) (S : Sc X m sc) (g : GOk X C G m) {r : Rx} {e : Expr} (h : mR m sc r e = true) : PE X e (tR (pX X C) X.K (evR G r)) ∧ ∀ f p, e ≠ .Starred f p := by
  cases r with
  | ex a =>
    have h : mE m sc a e = true := h
    exact ⟨rr_ex (sE G m a X C sc c S g e h).1, fun f p => mE_star h⟩
  | nl as =>
    simp only [mR] at h
    split at h
    · simp only [Bool.and_eq_true, decide_eq_true_eq] at h
      exact ⟨rr_nl (sEs G m as X C sc c S g _ h.2) h.1 fun ρ ds hd => by rw [evs_len hd, mEs_len h.2], fun f p z => by cases z⟩
    · cases h
  | nd =>
    simp only [mR] at h
    split at h
    · exact ⟨rr_nd, fun f p z => by cases z⟩
    · cases h
  | nd2 k1 v1 k2 v2 =>
    simp only [mR] at h
    split at h
    · simp only [Bool.and_eq_true] at h
      obtain ⟨⟨⟨h1, h2⟩, h3⟩, h4⟩ := h
      exact ⟨rr_nd2 (sE G m k1 X C sc c S g _ h1).1 (sE G m v1 X C sc c S g _ h2).1 (sE G m k2 X C sc c S g _ h3).1 (sE G m v2 X C sc c S g _ h4).1, fun f p z => by cases z⟩
    · cases h
/-- x = [..] on one row -/
theorem sSetL (c : Ctx X C) (F : Fc X m sc) (g : GOk X C G m) {i : Nat} {x : Str} {tp spos : Pos} {a : Ex} {el : Expr} {gs : List Comprehension} {scope : Scope} {vp : Pos} (hl : mP m sc (.v i) (.Name x tp) = true) (hs : swapT sc (.Name x tp) (.ListComp el gs scope vp) = true) (h : mE m sc a (.ListComp el gs scope vp) = true) :
    PS X (.Assign [.Name x tp] (.ListComp el gs scope vp) spos) (tS (pX X C) X.K H0 fun ρ => (ev G a ρ).bind fun d => (bindP (.v i) d ρ).map Out.nx) := by
  cases a <;> simp only [mE] at h <;> try (cases h; done)
  rename_i own elt p it cond
  split at h
  · rename_i q
    cases q
    rename_i tg iter ifs ia
    simp only [Bool.and_eq_true, decide_eq_true_eq] at h
    obtain ⟨⟨⟨⟨⟨⟨⟨h1, h2⟩, h3⟩, h4⟩, h5⟩, h6⟩, h7⟩, h8⟩ := h
    subst h1
    have S := F.s
    have eo : (ownS m own).map (·.2) = own := ownS_snd m own
    simp only [swapT, isComp, Bool.true_and, Bool.and_eq_true, decide_eq_true_eq, Expr.pos, Bool.not_eq_true'] at hs
    obtain ⟨⟨k1, k2⟩, k3⟩ := hs
    simp only [mP, Pat.isCh, Bool.not_false, Bool.true_and, mPs, locB, Bool.and_eq_true, decide_eq_true_eq] at hl
    have r := ps_setLc (i := i) (y := x) (py := tp) (elt := el) (pos := vp) (spos := spos) (g := tZ (pX X C) X.K it.pairs p) (tt := tT (pX X C) X.K (evC G cond)) (te := tE (pX X C) X.K (ev G elt)) c.calm c.nd (by rw [S.hN]; exact hl.1.1) (F.lk k2) (sw_true (by rw [F.scp]; exact F.kind) (F.lk k2) (beq_iff_eq.mpr (of_decide_eq_true k1)) k3) (sI G m it X C sc c S g iter tg h5 (by simpa using h4)) (blk_ok S h2)
      (fun s H b cl fp => sPz (blk_ctx (scope := scope) c s H b cl fp) (blk_sc S s H b cl fp) h4 h6) (fun s H b cl fp => sC G m cond _ C _ (blk_ctx (scope := scope) c s H b cl fp) (blk_sc S s H b cl fp) (blk_gok g s H b cl fp) _ h7)
      (fun s H b cl fp => (sE G m elt _ C _ (blk_ctx (scope := scope) c s H b cl fp) (blk_sc S s H b cl fp) (blk_gok g s H b cl fp) _ h8).1) (fold_of h5)
    refine ⟨fun pins s σ H E I ⟨ρ, o, Fr0, hf, q⟩ => ?_⟩
    obtain ⟨d, e1, hf⟩ := bnd hf
    obtain ⟨ρ', e2, e3⟩ := mpd hf
    subst e3
    refine thn (r.run pins s σ H { E with nx := fun σ' H' => ∃ p o, H' p = some o ∧ Mut (some o) ∧ ∀ od, E.nx σ' (upd H' p (.frz od o)) } I ?_) fun f s' h => SPseal h
    have rd := lc_read (X := X) (C := C) (own := ownS m own) (y := it.pairs) (P := p) (fi := evI G it) (fc := evC G cond) (fe := ev G elt) (fun j hj => by rw [eo]; simpa using List.all_eq_true.mp h3 j hj) (σ := σ) (H := H) (Q := fun v H' => E.nx (σ.set i (some v)) H')
      (by
        rw [eo]
        refine ⟨ρ, d, Fr0.env, e1, fun v H1 s1 r1 => ?_⟩
        simp only [bindP, Option.some.injEq] at e2
        subst e2
        have F1 := Fr0.up s1
        exact q _ H1 s1.kp (F1.sub (F1.env.set r1) OwSub.set))
    exact lc_wk rd fun v H' ⟨p', o', ev, g1, g2, g3⟩ => ⟨p', o', g1, g2, g3⟩
  · cases h
theorem sSetD (c : Ctx X C) (F : Fc X m sc) (g : GOk X C G m) {i : Nat} {x : Str} {tp spos : Pos} {a : Ex} {ke ve : Expr} {gs : List Comprehension} {scope : Scope} {vp : Pos} (hl : mP m sc (.v i) (.Name x tp) = true) (hs : swapT sc (.Name x tp) (.DictComp ke ve gs scope vp) = true) (h : mE m sc a (.DictComp ke ve gs scope vp) = true) :
    PS X (.Assign [.Name x tp] (.DictComp ke ve gs scope vp) spos) (tS (pX X C) X.K H0 fun ρ => (ev G a ρ).bind fun d => (bindP (.v i) d ρ).map Out.nx) := by
  cases a <;> simp only [mE] at h <;> try (cases h; done)
  rename_i own k v p it cond
  split at h
  · rename_i q
    cases q
    rename_i tg iter ifs ia
    simp only [Bool.and_eq_true, decide_eq_true_eq] at h
    obtain ⟨⟨⟨⟨⟨⟨⟨⟨h1, h2⟩, h3⟩, h4⟩, h5⟩, h6⟩, h7⟩, h8⟩, h9⟩ := h
    subst h1
    have S := F.s
    have eo : (ownS m own).map (·.2) = own := ownS_snd m own
    simp only [swapT, isComp, Bool.true_and, Bool.and_eq_true, decide_eq_true_eq, Expr.pos, Bool.not_eq_true'] at hs
    obtain ⟨⟨k1, k2⟩, k3⟩ := hs
    simp only [mP, Pat.isCh, Bool.not_false, Bool.true_and, mPs, locB, Bool.and_eq_true, decide_eq_true_eq] at hl
    have hsw : swapsWith (.DictComp ke ve [⟨tg, iter, ifs, 0⟩] scope vp) (some (.Name x tp)) spos.line X.env = pure true := by
      unfold swapsWith
      simp only [F.blk, F.ko k2, k3, Expr.pos, beq_iff_eq.mpr (of_decide_eq_true k1)]
      rfl
    have r := ps_setDx (i := i) (y := x) (py := tp) (kx := ke) (vx := ve) (pos := vp) (spos := spos) (put := putX (pX X C) X.K G.tups) (g := tZ (pX X C) X.K it.pairs p) (tt := tT (pX X C) X.K (evC G cond)) (tk := tE (pX X C) X.K (ev G k)) (tv := tE (pX X C) X.K (ev G v)) c.calm c.nd (by rw [S.hN]; exact hl.1.1) (F.lk k2) hsw (sI G m it X C sc c S g iter tg h5 (by simpa using h4)) (blk_ok S h2)
      (fun s H b cl fp => sPz (blk_ctx (scope := scope) c s H b cl fp) (blk_sc S s H b cl fp) h4 h6) (fun s H b cl fp => sC G m cond _ C _ (blk_ctx (scope := scope) c s H b cl fp) (blk_sc S s H b cl fp) (blk_gok g s H b cl fp) _ h7)
      (fun s H b cl fp => (sE G m k _ C _ (blk_ctx (scope := scope) c s H b cl fp) (blk_sc S s H b cl fp) (blk_gok g s H b cl fp) _ h8).1) (fun s H b cl fp => (sE G m v _ C _ (blk_ctx (scope := scope) c s H b cl fp) (blk_sc S s H b cl fp) (blk_gok g s H b cl fp) _ h9).1) (fun s H b cl fp => putX_ok (blk_ctx (scope := scope) c s H b cl fp) g.tk) (fold_of h5)
    refine PSwk r fun E σ H ⟨ρ, o, Fr0, hf, q⟩ => ?_
    obtain ⟨d, e1, hf⟩ := bnd hf
    obtain ⟨ρ', e2, e3⟩ := mpd hf
    subst e3
    refine dc_read (X := X) (C := C) (T := G.tups) (own := ownS m own) (y := it.pairs) (P := p) (fi := evI G it) (fc := evC G cond) (fk := ev G k) (fv := ev G v) (fun j hj => by rw [eo]; simpa using List.all_eq_true.mp h3 j hj) ?_
    rw [eo]
    refine ⟨ρ, d, Fr0.env, e1, fun v H1 s1 r1 => ?_⟩
    simp only [bindP, Option.some.injEq] at e2
    subst e2
    have F1 := Fr0.up s1
    exact q _ H1 s1.kp (F1.sub (F1.env.set r1) OwSub.set)
  · cases h
theorem mP_form {P : Pat} {tg : Expr} (h : mP m sc P tg = true) : isTup tg = true ∨ ∃ x p, tg = .Name x p := by
  cases tg <;> simp [mP] at h
  · exact .inr ⟨_, _, rfl⟩
  · exact .inl rfl
theorem assignEach_one {P : Pat} {tg : Expr} (h : mP m sc P tg = true) : (assignEach [tg] X.env).map (·.2) = [assign tg X.env] := by
  rcases mP_form h with h | ⟨x, p, e⟩
  · cases tg <;> first | (cases h; done) | rfl
  · subst e; rfl
theorem nt {b : Bool} (h : (!b) = true) : b = false := by cases b <;> first | rfl | cases h
/-- an assignment of a value -/
theorem sAsg (c : Ctx X C) (F : Fc X m sc) (g : GOk X C G m) {P : Pat} {a : Ex} {tg val : Expr} {spos : Pos} (h1 : mE m sc a val = true) (h2 : mP m sc P tg = true) (h3 : (if swapT sc tg val then true else parOk tg val sc) = true) :
    PS X (.Assign [tg] val spos) (tS (pX X C) X.K H0 fun ρ => (ev G a ρ).bind fun d => (bindP P d ρ).map Out.nx) := by
  cases hsw : swapT sc tg val with
  | false =>
    rw [hsw] at h3
    exact rs_asg (sE G m a X C sc c F.s g val h1).1 (sP c F.s h2) (swaps_of F (mP_form h2) hsw) (swapped_none F h3) (assignEach_one h2)
  | true =>
    have hN : ∃ x p, tg = .Name x p := by
      cases tg <;> first | (cases hsw; done) | exact ⟨_, _, rfl⟩
    obtain ⟨x, tp, e⟩ := hN
    subst e
    have hv : ∃ i, P = .v i := by
      cases P with
      | v i => exact ⟨i, rfl⟩
      | nil => simp [mP, Pat.isCh] at h2
      | cons p ps =>
        simp only [mP, Bool.and_eq_true, Bool.not_eq_true'] at h2
        have hc : ps.isCh = false := h2.1
        have z := h2.2
        simp only [mPs, Bool.and_eq_true] at z
        cases ps with
        | v j => simp [mPs] at z
        | nil => cases hc
        | cons q qs => simp [mPs] at z
    obtain ⟨i, e⟩ := hv
    subst e
    cases val <;> first
      | exact sSetL c F g h2 hsw h1
      | exact sSetD c F g h2 hsw h1
      | (simp [swapT, isComp] at hsw; done)
      | (exfalso; cases a <;> simp [mE] at h1; done)
mutual
theorem sS (hc : Ctx X C) (F : Fc X m sc) (g : GOk X C G m) : ∀ (s : St) (st : Stmt), mS m sc s st = true → PS X st (tS (pX X C) X.K H0 (evS G s))
  | .asg p e, st, h => by
    simp only [mS] at h
    split at h
    · simp only [Bool.and_eq_true] at h
      exact sAsg hc F g h.1.1 h.1.2 h.2
    · cases h
  | .new i r, st, h => by
    simp only [mS] at h
    split at h
    · simp only [Bool.and_eq_true, locB, decide_eq_true_eq, Bool.not_eq_true'] at h
      obtain ⟨l1, l2⟩ := F.s.loc _ h.1.1.1.2
      exact rs_new hc (by rw [F.s.hN]; exact h.1.1.1.1) l1 l2 (sR hc F.s g h.1.2).1 (swaps_no h.2)
    · cases h
  | .par i j a b, st, h => by
    simp only [mS] at h
    split at h
    · simp only [Bool.and_eq_true, mN, decide_eq_true_eq, Bool.not_eq_true'] at h
      obtain ⟨⟨⟨⟨⟨⟨⟨⟨h1, h2⟩, h3⟩, h4⟩, h5⟩, h6⟩, h7⟩, h8⟩, h9⟩ := h
      obtain ⟨ra, na⟩ := sR hc F.s g h8
      obtain ⟨rb, nb⟩ := sR hc F.s g h9
      exact rs_par hc (by rw [F.s.hN]; exact h2.1) (by rw [F.s.hN]; exact h3.1) h1 (F.lk h2.2) (F.lk h3.2) ra rb (star_cons na) (star_cons nb) (swapped_two F h2.2 h3.2 h4 h5 h6 h7 na nb)
    · cases h
  | .par3 i j k a b c', st, h => by
    simp only [mS] at h
    split at h
    · simp only [Bool.and_eq_true, mN, decide_eq_true_eq] at h
      obtain ⟨⟨⟨⟨⟨⟨⟨⟨⟨⟨⟨⟨⟨⟨⟨h1, h2⟩, h3⟩, h4⟩, h5⟩, h6⟩, h7⟩, h8⟩, h9⟩, h10⟩, h11⟩, h12⟩, h13⟩, h14⟩, h15⟩, h16⟩ := h
      obtain ⟨ra, na⟩ := sR hc F.s g h14
      obtain ⟨rb, nb⟩ := sR hc F.s g h15
      obtain ⟨rd, nd⟩ := sR hc F.s g h16
      exact rs_par3 hc (by rw [F.s.hN]; exact h4.1) (by rw [F.s.hN]; exact h5.1) (by rw [F.s.hN]; exact h6.1) h1 h2 h3 (F.lk h4.2) (F.lk h5.2) (F.lk h6.2) ra rb rd (star_cons na) (star_cons nb) (star_cons nd) (swapped_three F h4.2 h5.2 h6.2 h7 h8 h9 h10 h11 (nt h12) (nt h13) na nb nd)
    · cases h
  | .aug i o e, st, h => by
    simp only [mS] at h
    split at h
    · simp only [Bool.and_eq_true, locB, decide_eq_true_eq] at h
      obtain ⟨⟨h1, h2⟩, h3⟩ := h
      subst h1
      obtain ⟨l1, l2⟩ := F.s.loc _ h2.1.2
      exact rs_aug hc (by rw [F.s.hN]; exact h2.1.1) l1 l2 (sE G m e X C sc hc F.s g _ h3).1
    · cases h
  | .app i e, st, h => by
    simp only [mS] at h
    split at h
    · simp only [Bool.and_eq_true, decide_eq_true_eq] at h
      obtain ⟨⟨⟨h1, h2⟩, h3⟩, h4⟩ := h
      subst h1
      obtain ⟨n1, n2, n3, n4⟩ := S_vis F.s h2
      exact rs_app n1 n2 n3 n4 (sE G m e X C sc hc F.s g _ h4).1 h3 (star_cons fun f p => mE_star h4)
    · cases h
  | .put i k e, st, h => by
    simp only [mS] at h
    split at h
    · simp only [Bool.and_eq_true] at h
      obtain ⟨⟨h1, h2⟩, h3⟩ := h
      obtain ⟨n1, n2, n3, n4⟩ := S_vis F.s h1
      exact rs_put hc g.tk n1 n2 n3 n4 (sE G m e X C sc hc F.s g _ h3).1 (sE G m k X C sc hc F.s g _ h2).1 swaps_sub
    · cases h
  | .ife t a b, st, h => by
    simp only [mS] at h
    split at h
    · simp only [Bool.and_eq_true] at h
      exact rs_ife (sE G m t X C sc hc F.s g _ h.1.1).2 (sSs hc F g a _ h.1.2) (sSs hc F g b _ h.2)
    · cases h
  | .for_ p it body, st, h => by
    simp only [mS] at h
    split at h
    · simp only [Bool.and_eq_true] at h
      obtain ⟨⟨⟨h1, h2⟩, h3⟩, h4⟩ := h
      exact rs_for hc F.po (sI G m it X C sc hc F.s g _ _ h2 (by simpa using h1)) (sPz hc F.s h1 h3) (sSs hc F g body _ h4) (fold_of h2)
    · cases h
  | .whl t body, st, h => by
    simp only [mS] at h
    split at h
    · simp only [Bool.and_eq_true] at h
      exact rs_whl F.po (sE G m t X C sc hc F.s g _ h.1).2 (sSs hc F g body _ h.2)
    · cases h
  | .ret e, st, h => by
    simp only [mS] at h
    split at h
    · exact rs_ret (sE G m e X C sc hc F.s g _ h).1
    · cases h
  | .retN, st, h => by
    simp only [mS] at h
    split at h
    · exact rs_retN
    · cases h
  | .ex e, st, h => by
    simp only [mS] at h
    split at h
    · simp only [Bool.and_eq_true, Bool.not_eq_true'] at h
      exact rs_ex (sE G m e X C sc hc F.s g _ h.1).1 (swaps_no h.2)
    · cases h
  | .raise_, st, h => rs_raise
  | .pass, st, h => by
    simp only [mS] at h
    split at h
    · exact rs_pass
    · cases h
  | .brk, st, h => by
    simp only [mS] at h
    split at h
    · exact rs_brk
    · cases h
  | .cont, st, h => by
    simp only [mS] at h
    split at h
    · exact rs_cont
    · cases h
  | .fz i s, st, h => by
    simp only [mS] at h
    exact rs_fz (sS hc F g s st h)
theorem sSs (hc : Ctx X C) (F : Fc X m sc) (g : GOk X C G m) : ∀ (s : Ss) (st : List Stmt), mSs m sc s st = true → PSs X st (tS (pX X C) X.K H0 (evSs G s))
  | .nil, st, h => by
    cases st with
    | nil => exact rss_nil
    | cons _ _ => simp [mSs] at h
  | .cons s ss, st, h => by
    cases st with
    | nil => simp [mSs] at h
    | cons a r =>
      simp only [mSs, Bool.and_eq_true] at h
      have z := rss_cons (sS hc F g s a h.1) (sSs hc F g ss r h.2)
      have e : evSs G (.cons s ss) = fun ρ => (evS G s ρ).bind (thenO (evSs G ss)) := by
        funext ρ
        rfl
      rw [e]
      exact z
end
end
end PL


set_option Elab.async false
set_option linter.all false
set_option maxRecDepth 100000
/-! PLx: defs, one behind another; what the head tells; a law's end. -/
namespace PL
open PySem PySem.Spec PyProof.Rows L2
structure Df where
  nm : Str
  ps : List Str
  N : List Str
  body : Ss
/-- the defs, the last one first: each one's value by those behind it -/
def fnsOf (cst : Str → Option D) (tups : List D) : List Df → Str → Option (List D → Option D)
  | [], _ => none
  | d :: r, x => if x = d.nm then some (run ⟨fnsOf cst tups r, cst, tups⟩ d.ps.length d.N.length d.body) else fnsOf cst tups r x
theorem run_len {G : Gb} {np nN : Nat} {b : Ss} {ds : List D} {r : D} (h : run G np nN b ds = some r) : ds.length = np := by
  unfold run at h
  split at h
  · assumption
  · cases h
/-- the frame at a def's start -/
theorem start_fr {p : PrW} {K : PySem.W.Frag} {H : Hp} {N : List Str} {ds : List D} {vs : List V} (r : RpA p K H ds vs) (hn : vs.length ≤ N.length) : Fr p K H H (ds.map Sl.fz ++ List.replicate (N.length - ds.length) Sl.un) (L2.start N vs) := by
  have hl := r.len
  have no : ∀ i d, En.own (ds.map Sl.fz ++ List.replicate (N.length - ds.length) Sl.un) i ≠ some d := by
    intro i d h
    unfold En.own at h
    split at h
    · rename_i d' e
      by_cases hi : i < ds.length
      · rw [List.getElem?_append_left (by simpa using hi)] at e
        obtain ⟨_, _, z⟩ := map_get e
        cases z
      · rw [List.getElem?_append_right (by simpa using Nat.le_of_not_lt hi), List.getElem?_replicate] at e
        split at e <;> cases e
    · cases h
  refine ⟨⟨by simp [L2.start, hl], fun i sl e => ?_⟩, Same.refl H, fun i d a h => (no i d h).elim, fun i j d e a h => (no i d h).elim⟩
  by_cases hi : i < ds.length
  · rw [List.getElem?_append_left (by simpa using hi)] at e
    obtain ⟨d, e1, e2⟩ := map_get e
    obtain ⟨v, e3, r3⟩ := r.get e1
    subst e2
    refine ⟨some v, ?_, v, rfl, r3⟩
    unfold L2.start
    rw [List.getElem?_append_left (by simpa [hl] using hi), List.getElem?_map, e3]
    rfl
  · rw [List.getElem?_append_right (by simpa using Nat.le_of_not_lt hi), List.getElem?_replicate] at e
    split at e
    · rename_i hlt
      cases e
      refine ⟨none, ?_, trivial⟩
      unfold L2.start
      rw [List.getElem?_append_right (by simpa [hl] using Nat.le_of_not_lt hi), List.getElem?_replicate]
      rw [if_pos (by simpa [hl] using hlt)]
    · cases e
/-- what is known of a def -/
def DfOk (K : PySem.W.Frag) (mg : Str → Option Value) (fr : List Str) (mt : List (Str × Bi)) (d : Df) : Prop :=
  ∃ qual params scope body f fd, FunD K d.nm qual params body scope [] [] f fd ∧ mg d.nm = some (.ref f) ∧ Binds K fd d.ps [] ∧ FnScope d.N d.ps scope ∧ mSs ⟨d.N, fr, mt⟩ scope d.body body = true
/-- the module's constants and names -/
structure MdOk (P : Program) (w : World) (K : PySem.W.Frag) (mg : Str → Option Value) (C : Addr → Option (List V)) (cst : Str → Option D) (tups : List D) (fr : List Str) (mt : List (Str × Bi)) : Prop where
  cc : COk ⟨P, w, C⟩ K
  cst : ∀ x d, cst x = some d → ∃ v u, mg x = some u ∧ RelV v u ∧ ∀ H, Rp ⟨P, w, C⟩ K H d v
  fr : ∀ x, fr.contains x = true → mg x = none
  mt : ∀ x f, mt.lookup x = some f → mg x = some (biVal f)
  tk : TOk ⟨P, w, C⟩ tups
theorem fn_sc {P : Program} {w : World} {K : PySem.W.Frag} {mg : Str → Option Value} {base : Heap} {N ps : List Str} {qual : Str} {scope : Scope} {f : Addr} {cd : Value} {A : Around} {outer : List Env} {s : Shared} {H : Hp} {E : XK} (S : FnScope N ps scope) (fr : List Str) (mt : List (Str × Bi)) :
    Fc (cxOf CX0 P w K mg base N qual scope f cd A outer s H E).nox ⟨N, fr, mt⟩ scope := by
  refine ⟨⟨rfl, fun x h => ?_, fun x h => ?_, fun x h => ?_, fun x h => h⟩, rfl, S.kind, fun _ => rfl, PySem.PassesOwn.never⟩
  · simp only [knd, Bool.or_eq_true, decide_eq_true_eq] at h
    rcases h with (h | h) | h
    · exact .inl h
    · exact .inr (.inl h)
    · exact .inr (.inr h)
  · simp only [knd, Bool.or_eq_true, decide_eq_true_eq] at h
    rcases h with h | h
    · exact ⟨.inl h, .inl rfl⟩
    · exact ⟨.inr h, .inl rfl⟩
  · simp only [knd, decide_eq_true_eq] at h
    exact h
theorem df_ok {P : Program} {w : World} {K : PySem.W.Frag} {mg : Str → Option Value} {base : Heap} {C : Addr → Option (List V)} {cst : Str → Option D} {tups : List D} {fr : List Str} {mt : List (Str × Bi)} {fns : Str → Option (List D → Option D)} {k : Nat} (M : MdOk P w K mg C cst tups fr mt)
    (fo : ∀ x F, fns x = some F → ∃ f fdt ps n, FnOk P w K mg base CX0 k f fdt ps (spP ⟨P, w, C⟩ K n F) ∧ mg x = some (.ref f) ∧ PySem.W.keepIn K (.ref f) = true ∧ Binds K fdt ps [] ∧ ∀ ds r, F ds = some r → ds.length = n) {d : Df} {qual : Str} {params : Arguments} {scope : Scope} {body : List Stmt} {f : Addr} {fd : FuncData}
    (F : FunD K d.nm qual params body scope [] [] f fd) (S : FnScope d.N d.ps scope) (hm : mSs ⟨d.N, fr, mt⟩ scope d.body body = true) : FnOk P w K mg base CX0 (k + 1) f fd d.ps (spP ⟨P, w, C⟩ K d.ps.length (run ⟨fns, cst, tups⟩ d.ps.length d.N.length d.body)) := by
  refine F.ok S (fun vs H Q E h => h.1) fun cdv A outer s H vs Q E hr ⟨hl, ds, r, rp, hf, q⟩ => ?_
  refine ⟨tS ⟨P, w, C⟩ K H (evSs ⟨fns, cst, tups⟩ d.body), PSs.nox (sSs (X := (cxOf CX0 P w K mg base d.N qual scope f cdv A outer s H E).nox) (C := C) (H0 := H) (m := ⟨d.N, fr, mt⟩) (sc := scope) (G := ⟨fns, cst, tups⟩) ⟨rfl, S.nd, ?_, M.cc⟩ (fn_sc S fr mt) ⟨fun x F' hx => ?_, M.cst, M.fr, M.mt, M.tk⟩ d.body body hm), ?_⟩
  · have := hr.un
    show (A.deeper (envOfC qual scope s.heap.objs.size f cdv)).units + 70 < cLine
    omega
  · obtain ⟨f', fdt, ps', n, h1, h2, h3, h4, h5⟩ := fo x F' hx
    exact ⟨f', fdt, ps', k, n, h1, hr, h2, h3, h4, h5⟩
  · have hd := run_len hf
    unfold run at hf
    rw [if_pos hd] at hf
    obtain ⟨o, e1, e2⟩ := bnd hf
    have hN : vs.length ≤ d.N.length := by
      have h1 : (d.N.take d.ps.length).length = d.ps.length := by rw [S.pre]
      rw [List.length_take] at h1
      rw [hl]
      omega
    rw [← hd] at e1
    refine ⟨_, o, start_fr rp hN, e1, ?_⟩
    cases o with
    | rt x =>
      cases e2
      exact fun v H' _ sm r' => q v H' sm r'
    | nx ρ =>
      cases e2
      exact fun σ' H' _ F' => q .non H' F'.same (by simp only [Rp])
    | bk ρ => cases e2
    | ct ρ => cases e2
theorem dfs_ok {P : Program} {w : World} {K : PySem.W.Frag} {mg : Str → Option Value} {base : Heap} {C : Addr → Option (List V)} {cst : Str → Option D} {tups : List D} {fr : List Str} {mt : List (Str × Bi)} (M : MdOk P w K mg C cst tups fr mt) :
    ∀ L : List Df, (∀ d ∈ L, DfOk K mg fr mt d) → ∀ x F, fnsOf cst tups L x = some F → ∃ f fdt ps n, FnOk P w K mg base CX0 L.length f fdt ps (spP ⟨P, w, C⟩ K n F) ∧ mg x = some (.ref f) ∧ PySem.W.keepIn K (.ref f) = true ∧ Binds K fdt ps [] ∧ ∀ ds r, F ds = some r → ds.length = n
  | [], _, x, F, h => by cases h
  | d :: L, hL, x, F, h => by
    have ih := dfs_ok (base := base) M L fun e he => hL e (List.mem_cons_of_mem _ he)
    simp only [fnsOf] at h
    split at h
    · rename_i ex
      cases h
      subst ex
      obtain ⟨qual, params, scope, body, f, fd, h1, h2, h3, h4, h5⟩ := hL d List.mem_cons_self
      exact ⟨f, fd, d.ps, d.ps.length, df_ok M ih h1 h4 h5, h2, h1.kp, h3, fun ds r hr => run_len hr⟩
    · obtain ⟨f, fdt, ps, n, h1, h2, h3, h4, h5⟩ := ih x F h
      exact ⟨f, fdt, ps, n, h1.mono (Nat.le_succ _), h2, h3, h4, h5⟩
end PL


set_option Elab.async false
set_option linter.all false
set_option maxRecDepth 100000
set_option maxHeartbeats 2000000
/-! PLy: what the head tells of constants; a law's end. -/
namespace PL
open PySem PySem.Spec PyProof.Rows L2
/-- a module's constant -/
inductive Cv | int (i : Int) | str (x : Str) | tup (ks : List Key)
def Cv.d : Cv → D
  | .int i => .int i
  | .str x => .str x
  | .tup ks => .tuple (ks.map keyD)
def Cv.okB (K : PySem.W.Frag) (x : Str) : Cv → Bool
  | .int i => (He.Fa.int x i).ok K
  | .str z => (He.Fa.str x z).ok K
  | .tup ks => (He.Fa.glo x).ok K && (match K.lookup (He.ga K x) with
    | some ⟨.type c, none, .seq its _, _⟩ => decide (c = "tuple") && (decide (its.size ≤ sizeLine) && He.relAll (ks.map kV) its.toList)
    | _ => false)
def biB (K : PySem.W.Frag) (x : Str) (f : Bi) : Bool := He.eqO (PySem.W.nsIn K mainGlobals x) (some (some (biVal f)))
/-- what the head observes: facts by names, constants, the names of built-in functions, the defs -/
def obsP (fa : List He.Fa) (cs : List (Str × Cv)) (mt : List (Str × Bi)) (fn : List He.DefD) (K : PySem.W.Frag) : He.AlD :=
  ((fa.all (fun f => f.ok K) && (cs.all (fun q => q.2.okB K q.1) && mt.all fun q => biB K q.1 q.2)) && fn.all (fun d => d.ok K), fn.map fun d => He.fnW K d.at_)
def SaysP (fa : List He.Fa) (cs : List (Str × Cv)) (mt : List (Str × Bi)) (fn : List He.DefD) (K : PySem.W.Frag) : Prop := obsP fa cs mt fn K = He.valD fn
def obsPG (n : Nat) (fa : List He.Fa) (cs : List (Str × Cv)) (mt : List (Str × Bi)) (fn : List He.DefD) (g : Addr → Option Obj) : He.AlD := obsP fa cs mt fn (He.frG g (He.asD g n))
def hookP (n : Nat) (fa : List He.Fa) (cs : List (Str × Cv)) (mt : List (Str × Bi)) (fn : List He.DefD) : PySem.W.Hook where
  α := He.AlD
  obs := fun s => obsPG n fa cs mt fn s.heap.get?
  val := fun _ => He.valD fn
  says := fun _ h => ∃ K : PySem.W.Frag, K.In h ∧ SaysP fa cs mt fn K
  of := fun _ _ e => ⟨_, He.frG_in, e⟩
  keeps := fun _ _ _ ⟨K, hK, c⟩ k => ⟨K, PySem.W.Frag.In.keeps hK k, c⟩
theorem obsPG_eq {n : Nat} {fa : List He.Fa} {cs : List (Str × Cv)} {mt : List (Str × Bi)} {fn : List He.DefD} {g : Addr → Option Obj} {s : Shared} (h : ∀ a, g a = s.heap.get? a) : obsPG n fa cs mt fn g = (hookP n fa cs mt fn).obs s := by
  have e : g = s.heap.get? := funext h
  rw [e] <;> rfl
section
variable {fa : List He.Fa} {cs : List (Str × Cv)} {mt : List (Str × Bi)} {fn : List He.DefD} {K : PySem.W.Frag}
theorem SaysP.all (c : SaysP fa cs mt fn K) : (∀ f ∈ fa, f.ok K = true) ∧ (∀ q ∈ cs, q.2.okB K q.1 = true) ∧ (∀ q ∈ mt, biB K q.1 q.2 = true) ∧ ∀ d ∈ fn, ∃ fd, FunD K d.name d.qual d.params d.body d.scope (d.dvs K) (d.kws K) (He.fAd K d.at_) fd := by
  have c1 : ((fa.all (fun f => f.ok K) && (cs.all (fun q => q.2.okB K q.1) && mt.all fun q => biB K q.1 q.2)) && fn.all (fun d => d.ok K)) = true := congrArg (fun z : He.AlD => z.1) c
  have c2 : fn.map (fun d => He.fnW K d.at_) = fn.map He.DefD.val := congrArg (fun z : He.AlD => z.2) c
  simp only [Bool.and_eq_true, List.all_eq_true] at c1
  refine ⟨c1.1.1, c1.1.2.1, c1.1.2.2, fun d hd => ?_⟩
  have hv : He.fnW K d.at_ = d.val := by
    obtain ⟨i, hi⟩ := List.getElem?_of_mem hd
    have e := congrArg (fun l => l[i]?) c2
    simp only [List.getElem?_map, hi, Option.map_some, Option.some.injEq] at e
    exact e
  exact He.DefD.funD hv (c1.2 d hd)
def cstOf (cs : List (Str × Cv)) (x : Str) : Option D := (cs.lookup x).map Cv.d
def tupsOf : List (Str × Cv) → List D
  | [] => []
  | (_, .tup ks) :: r => .tuple (ks.map keyD) :: tupsOf r
  | _ :: r => tupsOf r
/-- the constant tuples by their addresses -/
def ctC (K : PySem.W.Frag) : List (Str × Cv) → Addr → Option (List V)
  | [], _ => none
  | (x, .tup ks) :: r, a => if He.ga K x = a then some (ks.map kV) else ctC K r a
  | _ :: r, a => ctC K r a
theorem ctC_mem {K : PySem.W.Frag} : ∀ {cs : List (Str × Cv)} {a : Addr} {xs : List V}, ctC K cs a = some xs → ∃ x ks, (x, Cv.tup ks) ∈ cs ∧ He.ga K x = a ∧ xs = ks.map kV
  | [], a, xs, h => by cases h
  | (x, .tup ks) :: r, a, xs, h => by
    simp only [ctC] at h
    split at h
    · rename_i e
      cases h
      exact ⟨x, ks, List.mem_cons_self, e, rfl⟩
    · obtain ⟨y, k, h1, h2⟩ := ctC_mem h
      exact ⟨y, k, List.mem_cons_of_mem _ h1, h2⟩
  | (x, .int i) :: r, a, xs, h => by
    obtain ⟨y, k, h1, h2⟩ := ctC_mem (cs := r) (by simpa only [ctC] using h)
    exact ⟨y, k, List.mem_cons_of_mem _ h1, h2⟩
  | (x, .str i) :: r, a, xs, h => by
    obtain ⟨y, k, h1, h2⟩ := ctC_mem (cs := r) (by simpa only [ctC] using h)
    exact ⟨y, k, List.mem_cons_of_mem _ h1, h2⟩
theorem ctC_some {K : PySem.W.Frag} : ∀ {cs : List (Str × Cv)} {x : Str} {ks : List Key}, (x, Cv.tup ks) ∈ cs → ∃ xs, ctC K cs (He.ga K x) = some xs
  | [], x, ks, h => by cases h
  | q :: r, x, ks, h => by
    obtain ⟨y, c⟩ := q
    cases c with
    | tup k2 =>
      simp only [ctC]
      split
      · exact ⟨_, rfl⟩
      · rename_i ne
        rcases List.mem_cons.mp h with e | h
        · cases e; exact absurd rfl ne
        · exact ctC_some h
    | int i =>
      simp only [ctC]
      rcases List.mem_cons.mp h with e | h
      · cases e
      · exact ctC_some h
    | str i =>
      simp only [ctC]
      rcases List.mem_cons.mp h with e | h
      · cases e
      · exact ctC_some h
theorem tup_ok {x : Str} {ks : List Key} (h : Cv.okB K x (.tup ks) = true) : ∃ (o : Obj) (its : Array Value) (n : Nat), K.lookup (He.ga K x) = some o ∧ o.cls = .type "tuple" ∧ o.dict = none ∧ o.data = .seq its n ∧ its.size ≤ sizeLine ∧ Vals (ks.map kV) its.toList := by
  simp only [Cv.okB, Bool.and_eq_true] at h
  obtain ⟨_, h⟩ := h
  split at h
  · rename_i c its n sl e
    simp only [Bool.and_eq_true, decide_eq_true_eq] at h
    obtain ⟨h1, h2, h3⟩ := h
    exact ⟨_, its, n, e, by rw [h1], rfl, rfl, h2, He.relAll_ok h3⟩
  · cases h
theorem kv_inv {p : PrW} {H : Hp} : ∀ {ks : List Key} {ds : List D}, RpA p K H ds (ks.map kV) → ds = ks.map keyD
  | [], ds, h => by
    cases ds with
    | nil => rfl
    | cons d r =>
      simp only [RpA] at h
      obtain ⟨_, _, e, _⟩ := h
      cases e
  | k :: r, ds, h => by
    cases ds with
    | nil => simp [RpA] at h
    | cons d l =>
      simp only [RpA, List.map_cons] at h
      obtain ⟨v, vs, e, h1, h2⟩ := h
      simp only [List.cons.injEq] at e
      obtain ⟨e1, e2⟩ := e
      subst e1 e2
      rw [List.map_cons, kv_inv h2]
      congr 1
      cases k with
      | inl i => cases d <;> simp only [Rp, kV] at h1 <;> first | (cases h1; rfl) | (cases h1; done) | (obtain ⟨_, z, _⟩ := h1; cases z; done) | (obtain ⟨_, _, z, _⟩ := h1; cases z; done)
      | inr i => cases d <;> simp only [Rp, kV] at h1 <;> first | (cases h1; rfl) | (cases h1; done) | (obtain ⟨_, z, _⟩ := h1; cases z; done) | (obtain ⟨_, _, z, _⟩ := h1; cases z; done)
theorem eqv_keys : ∀ ks : List Key, PyData.eqvAll (ks.map keyD) (ks.map keyD) = true
  | [] => rfl
  | .inl i :: r => by
    show ((i == i) && PyData.eqvAll (r.map keyD) (r.map keyD)) = true
    rw [eqv_keys r, beq_self_eq_true]
    rfl
  | .inr i :: r => by
    show ((i == i) && PyData.eqvAll (r.map keyD) (r.map keyD)) = true
    rw [eqv_keys r, beq_self_eq_true]
    rfl
theorem tups_any : ∀ {cs : List (Str × Cv)} {x : Str} {ks : List Key}, (x, Cv.tup ks) ∈ cs → (tupsOf cs).any (fun t => PyData.eqv t (.tuple (ks.map keyD))) = true
  | [], x, ks, h => by cases h
  | q :: r, x, ks, h => by
    obtain ⟨y, c⟩ := q
    cases c with
    | tup k2 =>
      simp only [tupsOf, List.any_cons, Bool.or_eq_true]
      rcases List.mem_cons.mp h with e | h
      · cases e; exact .inl (eqv_keys ks)
      · exact .inr (tups_any h)
    | int i =>
      simp only [tupsOf]
      rcases List.mem_cons.mp h with e | h
      · cases e
      · exact tups_any h
    | str i =>
      simp only [tupsOf]
      rcases List.mem_cons.mp h with e | h
      · cases e
      · exact tups_any h
theorem lookup_mem {α : Type} : ∀ {l : List (Str × α)} {x : Str} {a : α}, l.lookup x = some a → (x, a) ∈ l
  | [], x, a, h => by cases h
  | (y, b) :: r, x, a, h => by
    rw [List.lookup_cons] at h
    by_cases e : x == y
    · simp only [e, Option.some.injEq] at h
      rw [eq_of_beq e, h]
      exact List.mem_cons_self
    · simp only [e] at h
      exact List.mem_cons_of_mem _ (lookup_mem h)
/-- all that the defs lean on, from what the head tells; two constant tuples of one object are one -/
theorem md_ok {P : Program} {w : World} {h : Heap} {mg : Str → Option Value} {fr : List Str} (KX : K.In h) (G : h.Ns mainGlobals mg) (c : SaysP fa cs mt fn K) (hfr : ∀ x, fr.contains x = true → He.Fa.free x ∈ fa) : MdOk P w K mg (ctC K cs) (cstOf cs) (tupsOf cs) fr mt := by
  obtain ⟨c1, c2, c3, c4⟩ := c.all
  have cc : COk ⟨P, w, ctC K cs⟩ K := by
    intro a xs e
    obtain ⟨x, ks, h1, h2, h3⟩ := ctC_mem (show ctC K cs a = some xs from e)
    subst h2 h3
    exact tup_ok (c2 _ h1)
  refine ⟨cc, fun x d e => ?_, fun x e => He.free_ok KX G (c1 _ (hfr x e)), fun x f e => ?_, fun a xs e K' H ds r => ?_⟩
  · obtain ⟨cv, e1, e2⟩ := mpd e
    subst e2
    have k := c2 _ (lookup_mem e1)
    cases cv with
    | int i =>
      obtain ⟨t, ht⟩ := He.int_ok KX G (x := x) (i := i) k
      exact ⟨.int i, _, ht, ⟨t, rfl⟩, fun H => rpInt.mpr rfl⟩
    | str z =>
      obtain ⟨t, ht⟩ := He.str_ok KX G (x := x) (z := z) k
      exact ⟨.str z, _, ht, ⟨t, rfl⟩, fun H => rpStr.mpr rfl⟩
    | tup ks =>
      have hg : (He.Fa.glo x).ok K = true := by
        simp only [Cv.okB, Bool.and_eq_true] at k
        exact k.1
      refine ⟨.ref (He.ga K x), _, He.glo_ok KX G hg, rfl, fun H => ?_⟩
      obtain ⟨xs, hx⟩ := ctC_some (K := K) (lookup_mem e1)
      obtain ⟨o, its, n, g1, g2, g3, g4, g5, g6⟩ := cc _ _ hx
      obtain ⟨o', its', n', q1, q2, q3, q4, q5, q6⟩ := tup_ok k
      rw [q1] at g1
      cases g1
      rw [q4] at g4
      cases g4
      have exs := Vals.inj q6 g6
      subst exs
      exact rpTup.mpr ⟨_, _, rfl, .inr (.inr hx), rpA_keyD ks⟩
  · exact PySem.W.mg_of KX G (He.eqO_ok (c3 _ (lookup_mem e)))
  · obtain ⟨x, ks, h1, h2, h3⟩ := ctC_mem (show ctC K cs a = some xs from e)
    subst h3
    rw [kv_inv r]
    exact tups_any h1
end
/-- a law's end: the script as a list, its numbers' bits told -/
theorem walk_PL {l : PySem.W.OpenLaw} {n k : Nat} {q : Program} {loose : List Str} {XP : (Str → Option Value) → Heap → Prop} {YP : World → Heap → Prop} {d : DefRec} {x : Str} (hn : l.most = some n) (hn2 : n ≤ sizeLine) (hdf : d.params.defaults = []) (hr : Room k callerA)
    (F : ∀ (w : World) (mg : Str → Option Value) (fa : Addr) (h : Heap), YP w h → h.Ns mainGlobals mg → mg d.name = some (.ref fa) → ∃ (K : PySem.W.Frag) (fd : FuncData) (C : Addr → Option (List V)) (f : List D → Option D), K.In h ∧ (∀ (s : Shared) (u : Value), BindsTo s fd ⟨[u], []⟩ [(x, u)]) ∧
      (∀ base : Heap, K.In base → base.Ns mainGlobals mg → FnOk l.prog w K mg base CX0 k fa fd [x] (spP ⟨l.prog, w, C⟩ K 1 f)) ∧ ∀ ns : List Int, ns.length ≤ n → (∀ z ∈ ns, Builtin.Int.intBits z ≤ 1048576) → f [.list (ns.map PyData.int)] = some (.bool true)) :
    PySem.W.WalkO q loose XP YP l.row.toRowW d [] (fun f vs => PySem.call f vs) := by
  refine Att.attach_callB hn hdf fun w s₀ s₁ mg mb fa o pm cd doc a vs ns G Y ho hd hcd hmg hobj hints hlen hbits hg => ?_
  obtain ⟨K, fd, C, f, KX, hb, hF, hm⟩ := F w mg fa _ Y G.T.g hmg
  refine law_call KX G.T.g G.T.b G.T.builtins G.T.nolimit hg hobj hints (Nat.le_trans hlen hn2) hr hF hb (fun H hO hS => ⟨rfl, [.list (ns.map PyData.int)], .bool true, .cons (rpLst.mpr ⟨a, ns.map V.int, rfl, ?_, rpa_of_ints ns⟩) .nil, hm ns hlen hbits, fun v H' _ r => rpBool.mp r⟩) fun H e s' z => z.elim
  rcases hS with hS | ⟨ob, its, m, h1, h2, h3, h4, h5, h6⟩
  · rcases hS with hS | hS
    · rcases hO a with z | ⟨o', ys, z⟩
      · rw [hS] at z; cases z
      · rw [hS] at z; cases z
    · exact .inl hS
  · have e := KX a ob h1
    rw [hobj] at e
    cases e
    cases h4
    exact .inr ⟨vs.toArray, _, h1, h5, h6⟩
end PL


set_option Elab.async false
set_option linter.all false
set_option maxRecDepth 100000
set_option maxHeartbeats 0
namespace K22
open PySem PySem.Spec PyProof.Rows L2 PL
def top (i : Nat) : Stmt := PySem.Challenge.pw_rowhidden_k22_main_noise_moved_and_mirro.main.body.getD i (.Pass ⟨0, 0, 0, 0⟩)
def mkD (n : Str) (i : Nat) : He.DefD := ⟨(n, none), n, n, defArgs (top i), defBody (top i), defScope (top i), [], []⟩
def b_is_integer : Ss := (.cons (.ret (.and_ (.isi (.v 0) "int") (.not_ (.isi (.v 0) "bool")))) .nil)
def f_is_integer : Df := ⟨"is_integer", ["value"], ["value"], b_is_integer⟩
def b_is_fraction : Ss := (.cons (.ife (.or_ (.not_ (.isi (.v 0) "tuple")) (.or_ (.cmp .ne (.bi .len (.cons (.v 0) .nil)) (.int 2)) (.not_ (.bi .all (.cons (.lc [1] (.call "is_integer" (.cons (.v 1) .nil)) (.v 1) (.seq (.v 0)) .non) .nil))))) (.cons (.ret (.bl false)) .nil) .nil) (.cons (.ret (.and_ (.cmp .ge (.ix (.v 0) (.int 1)) (.int 1)) (.cmp .eq (.bi .gcd (.cons (.ix (.v 0) (.int 0)) (.cons (.ix (.v 0) (.int 1)) .nil))) (.int 1)))) .nil))
def f_is_fraction : Df := ⟨"is_fraction", ["value"], ["value", "one"], b_is_fraction⟩
def b_least_pair : Ss := (.cons (.asg (.v 2) (.bi .gcd (.cons (.v 0) (.cons (.v 1) .nil)))) (.cons (.ife (.cmp .lt (.v 1) (.int 0)) (.cons (.asg (.v 2) (.op .sub (.int 0) (.v 2))) .nil) .nil) (.cons (.ret (.tup (.cons (.op .fdiv (.v 0) (.v 2)) (.cons (.op .fdiv (.v 1) (.v 2)) .nil)))) .nil)))
def f_least_pair : Df := ⟨"least_pair", ["above", "below"], ["above", "below", "common"], b_least_pair⟩
def b_plus : Ss := (.cons (.ret (.call "least_pair" (.cons (.op .add (.op .mul (.ix (.v 0) (.int 0)) (.ix (.v 1) (.int 1))) (.op .mul (.ix (.v 1) (.int 0)) (.ix (.v 0) (.int 1)))) (.cons (.op .mul (.ix (.v 0) (.int 1)) (.ix (.v 1) (.int 1))) .nil)))) .nil)
def f_plus : Df := ⟨"plus", ["one", "other"], ["one", "other"], b_plus⟩
def b_minus : Ss := (.cons (.ret (.call "least_pair" (.cons (.op .sub (.op .mul (.ix (.v 0) (.int 0)) (.ix (.v 1) (.int 1))) (.op .mul (.ix (.v 1) (.int 0)) (.ix (.v 0) (.int 1)))) (.cons (.op .mul (.ix (.v 0) (.int 1)) (.ix (.v 1) (.int 1))) .nil)))) .nil)
def f_minus : Df := ⟨"minus", ["one", "other"], ["one", "other"], b_minus⟩
def b_times : Ss := (.cons (.ret (.call "least_pair" (.cons (.op .mul (.ix (.v 0) (.int 0)) (.ix (.v 1) (.int 0))) (.cons (.op .mul (.ix (.v 0) (.int 1)) (.ix (.v 1) (.int 1))) .nil)))) .nil)
def f_times : Df := ⟨"times", ["one", "other"], ["one", "other"], b_times⟩
def b_over : Ss := (.cons (.ret (.call "least_pair" (.cons (.op .mul (.ix (.v 0) (.int 0)) (.ix (.v 1) (.int 1))) (.cons (.op .mul (.ix (.v 0) (.int 1)) (.ix (.v 1) (.int 0))) .nil)))) .nil)
def f_over : Df := ⟨"over", ["one", "other"], ["one", "other"], b_over⟩
def b_power_of : Ss := (.cons (.asg (.cons (.v 2) (.cons (.v 3) .nil)) (.tup (.cons (.int 1) (.cons (.int 1) .nil)))) (.cons (.for_ (.v 4) (.rng1 (.v 1)) (.cons (.par 2 3 (.ex (.op .mul (.v 2) (.ix (.v 0) (.int 0)))) (.ex (.op .mul (.v 3) (.ix (.v 0) (.int 1))))) .nil)) (.cons (.ret (.tup (.cons (.v 2) (.cons (.v 3) .nil)))) .nil)))
def f_power_of : Df := ⟨"power_of", ["one", "many"], ["one", "many", "above", "below", "_time"], b_power_of⟩
def b_is_value : Ss := (.cons (.ret (.or_ (.call "is_integer" (.cons (.v 0) .nil)) (.and_ (.isi (.v 0) "tuple") (.bi .all (.cons (.lc [1] (.call "is_integer" (.cons (.v 1) .nil)) (.v 1) (.seq (.v 0)) .non) .nil))))) .nil)
def f_is_value : Df := ⟨"is_value", ["value"], ["value", "one"], b_is_value⟩
def b_is_row : Ss := (.cons (.ret (.isi (.v 0) "tuple")) .nil)
def f_is_row : Df := ⟨"is_row", ["value"], ["value"], b_is_row⟩
def b_are_of_one_sort : Ss := (.cons (.ret (.cmp .lt (.bi .len (.cons (.dc [1] (.call "is_row" (.cons (.v 1) .nil)) (.bl true) (.v 1) (.seq (.v 0)) .non) .nil)) (.int 2))) .nil)
def f_are_of_one_sort : Df := ⟨"are_of_one_sort", ["values"], ["values", "one"], b_are_of_one_sort⟩
def b__is_weighed : Ss := (.cons (.ret (.and_ (.isi (.v 0) "tuple") (.and_ (.cmp .eq (.bi .len (.cons (.v 0) .nil)) (.int 2)) (.and_ (.call "is_value" (.cons (.ix (.v 0) (.int 0)) .nil)) (.and_ (.call "is_integer" (.cons (.ix (.v 0) (.int 1)) .nil)) (.cmp .ge (.ix (.v 0) (.int 1)) (.int 1))))))) .nil)
def f__is_weighed : Df := ⟨"_is_weighed", ["row"], ["row"], b__is_weighed⟩
def b_common_of : Ss := (.cons (.asg (.v 1) (.int 0)) (.cons (.for_ (.v 2) (.seq (.v 0)) (.cons (.asg (.v 1) (.bi .gcd (.cons (.v 1) (.cons (.v 2) .nil)))) .nil)) (.cons (.ret (.v 1)) .nil)))
def f_common_of : Df := ⟨"common_of", ["numbers"], ["numbers", "found", "number"], b_common_of⟩
def b_spread_fault : Ss := (.cons (.ife (.or_ (.not_ (.isi (.v 0) "tuple")) (.or_ (.cmp .ne (.bi .len (.cons (.v 0) .nil)) (.int 2)) (.not_ (.call "is_integer" (.cons (.ix (.v 0) (.int 0)) .nil))))) (.cons (.ret (.g "FORM")) .nil) .nil) (.cons (.asg (.cons (.v 1) (.cons (.v 2) .nil)) (.v 0)) (.cons (.ife (.or_ (.not_ (.isi (.v 2) "tuple")) (.not_ (.chain .le .le (.int 1) (.bi .len (.cons (.v 2) .nil)) (.g "MOST_VALUES")))) (.cons (.ret (.g "FORM")) .nil) .nil) (.cons (.for_ (.cons (.v 3) (.cons (.v 4) .nil)) (.enum (.v 2)) (.cons (.ife (.or_ (.not_ (.call "_is_weighed" (.cons (.v 4) .nil))) (.cmp .ne (.call "is_row" (.cons (.ix (.v 4) (.int 0)) .nil)) (.call "is_row" (.cons (.ix (.ix (.v 2) (.int 0)) (.int 0)) .nil)))) (.cons (.ret (.tup (.cons (.str "row") (.cons (.v 3) .nil)))) .nil) .nil) (.cons (.ife (.and_ (.cmp .gt (.v 3) (.int 0)) (.not_ (.cmp .lt (.ix (.ix (.v 2) (.op .sub (.v 3) (.int 1))) (.int 0)) (.ix (.v 4) (.int 0))))) (.cons (.ret (.tup (.cons (.str "row") (.cons (.v 3) .nil)))) .nil) .nil) .nil))) (.cons (.asg (.v 5) (.lc [6, 7] (.v 7) (.cons (.v 6) (.cons (.v 7) .nil)) (.seq (.v 2)) .non)) (.cons (.ife (.cmp .ne (.bi .sum (.cons (.v 5) .nil)) (.v 1)) (.cons (.ret (.tup (.cons (.str "sum") .nil))) .nil) .nil) (.cons (.ret (.ite (.cmp .gt (.call "common_of" (.cons (.v 5) .nil)) (.int 1)) (.tup (.cons (.str "least") .nil)) .non)) .nil)))))))
def f_spread_fault : Df := ⟨"spread_fault", ["value"], ["value", "below", "rows", "number", "row", "weights", "_value", "weight"], b_spread_fault⟩
def b_check_spread : Ss := (.cons (.ife (.notN (.call "spread_fault" (.cons (.v 0) .nil))) (.cons .raise_ .nil) .nil) .nil)
def f_check_spread : Df := ⟨"check_spread", ["value"], ["value"], b_check_spread⟩
def b_spread_of_weights : Ss := (.cons (.asg (.v 1) (.dc [4, 5] (.v 4) (.v 5) (.cons (.v 4) (.cons (.v 5) .nil)) (.items (.v 0)) (.some (.cmp .gt (.v 5) (.int 0))))) (.cons (.ife (.cmp .gt (.bi .len (.cons (.v 1) .nil)) (.g "MOST_VALUES")) (.cons .raise_ .nil) .nil) (.cons (.asg (.v 2) (.call "common_of" (.cons (.lvals (.v 1)) .nil))) (.cons (.asg (.v 3) (.bi .tuple (.cons (.lc [4] (.tup (.cons (.v 4) (.cons (.op .fdiv (.ix (.v 1) (.v 4)) (.v 2)) .nil))) (.v 4) (.seq (.bi .sorted (.cons (.v 1) .nil))) .non) .nil))) (.cons (.ret (.tup (.cons (.bi .sum (.cons (.lc [6, 5] (.v 5) (.cons (.v 6) (.cons (.v 5) .nil)) (.seq (.v 3)) .non) .nil)) (.cons (.v 3) .nil)))) .nil)))))
def f_spread_of_weights : Df := ⟨"spread_of_weights", ["weights"], ["weights", "found", "common", "rows", "value", "weight", "_value"], b_spread_of_weights⟩
def b_spread_by : Ss := (.cons (.asg (.v 1) (.int 1)) (.cons (.for_ (.v 2) (.vals (.v 0)) (.cons (.asg (.v 1) (.bi .lcm (.cons (.v 1) (.cons (.ix (.v 2) (.int 1)) .nil)))) .nil)) (.cons (.ret (.call "spread_of_weights" (.cons (.dc [3, 2] (.v 3) (.op .mul (.ix (.v 2) (.int 0)) (.op .fdiv (.v 1) (.ix (.v 2) (.int 1)))) (.cons (.v 3) (.cons (.v 2) .nil)) (.items (.v 0)) .non) .nil))) .nil)))
def f_spread_by : Df := ⟨"spread_by", ["shares"], ["shares", "whole", "share", "value"], b_spread_by⟩
def b_are_pairs : Ss := (.cons (.ret (.and_ (.isi (.v 0) "tuple") (.bi .all (.cons (.lc [1] (.and_ (.isi (.v 1) "tuple") (.cmp .eq (.bi .len (.cons (.v 1) .nil)) (.int 2))) (.v 1) (.seq (.v 0)) .non) .nil)))) .nil)
def f_are_pairs : Df := ⟨"are_pairs", ["value"], ["value", "one"], b_are_pairs⟩
def b_shares_of : Ss := (.cons (.ret (.dc [1, 2] (.v 1) (.call "least_pair" (.cons (.v 2) (.cons (.ix (.v 0) (.int 0)) .nil))) (.cons (.v 1) (.cons (.v 2) .nil)) (.seq (.ix (.v 0) (.int 1))) .non)) .nil)
def f_shares_of : Df := ⟨"shares_of", ["spread"], ["spread", "value", "weight"], b_shares_of⟩
def b_chance_of : Ss := (.cons (.ex (.call "check_spread" (.cons (.v 0) .nil))) (.cons (.ife (.not_ (.call "is_value" (.cons (.v 1) .nil))) (.cons (.ret (.g "NOUGHT")) .nil) .nil) (.cons (.ret (.get (.call "shares_of" (.cons (.v 0) .nil)) (.v 1) (.g "NOUGHT"))) .nil)))
def f_chance_of : Df := ⟨"chance_of", ["spread", "value"], ["spread", "value"], b_chance_of⟩
def b__by_values : Ss := (.cons (.ife (.or_ (.not_ (.call "are_pairs" (.cons (.v 1) .nil))) (.not_ (.bi .all (.cons (.lc [3] (.call "is_value" (.cons (.ix (.v 3) (.int 0)) .nil)) (.v 3) (.seq (.v 1)) .non) .nil)))) (.cons .raise_ .nil) .nil) (.cons (.asg (.v 2) (.bi .dict (.cons (.v 1) .nil))) (.cons (.ife (.or_ (.cmp .lt (.bi .len (.cons (.v 2) .nil)) (.bi .len (.cons (.v 1) .nil))) (.not_ (.bi .all (.cons (.lc [4, 5] (.cmp .isin (.v 4) (.v 2)) (.cons (.v 4) (.cons (.v 5) .nil)) (.seq (.ix (.v 0) (.int 1))) .non) .nil)))) (.cons .raise_ .nil) .nil) (.cons (.ret (.v 2)) .nil))))
def f__by_values : Df := ⟨"_by_values", ["spread", "pairs"], ["spread", "pairs", "found", "one", "value", "_weight"], b__by_values⟩
def b_mapped : Ss := (.cons (.ex (.call "check_spread" (.cons (.v 0) .nil))) (.cons (.asg (.v 2) (.call "_by_values" (.cons (.v 0) (.cons (.v 1) .nil)))) (.cons (.ife (.or_ (.not_ (.bi .all (.cons (.lc [6] (.call "is_value" (.cons (.v 6) .nil)) (.v 6) (.vals (.v 2)) .non) .nil))) (.not_ (.call "are_of_one_sort" (.cons (.lvals (.v 2)) .nil)))) (.cons .raise_ .nil) .nil) (.cons (.new 3 .nd) (.cons (.for_ (.cons (.v 4) (.cons (.v 5) .nil)) (.seq (.ix (.v 0) (.int 1))) (.cons (.put 3 (.ix (.v 2) (.v 4)) (.op .add (.oget 3 (.ix (.v 2) (.v 4)) (.int 0)) (.v 5))) .nil)) (.cons (.fz 3 (.ret (.call "spread_of_weights" (.cons (.v 3) .nil)))) .nil))))))
def f_mapped : Df := ⟨"mapped", ["spread", "pairs"], ["spread", "pairs", "news", "found", "value", "weight", "one"], b_mapped⟩
def b_is_base : Ss := (.cons (.ret (.and_ (.call "is_fraction" (.cons (.v 0) .nil)) (.chain3 .lt .lt .le (.int 0) (.ix (.v 0) (.int 0)) (.ix (.v 0) (.int 1)) (.g "MOST_BELOW")))) .nil)
def f_is_base : Df := ⟨"is_base", ["value"], ["value"], b_is_base⟩
def b_is_score : Ss := (.cons (.ret (.and_ (.call "is_integer" (.cons (.v 0) .nil)) (.chain .le .le (.op .sub (.int 0) (.g "MOST_SCORE")) (.v 0) (.g "MOST_SCORE")))) .nil)
def f_is_score : Df := ⟨"is_score", ["value"], ["value"], b_is_score⟩
def b_check_noise : Ss := (.cons (.ife (.not_ (.v 0)) (.cons .raise_ .nil) .nil) .nil)
def f_check_noise : Df := ⟨"check_noise", ["is_right"], ["is_right"], b_check_noise⟩
def b_chance_at : Ss := (.cons (.ret (.call "times" (.cons (.call "over" (.cons (.call "minus" (.cons (.g "ONE") (.cons (.v 0) .nil))) (.cons (.call "plus" (.cons (.g "ONE") (.cons (.v 0) .nil))) .nil))) (.cons (.call "power_of" (.cons (.v 0) (.cons (.bi .abs (.cons (.v 1) .nil)) .nil))) .nil)))) .nil)
def f_chance_at : Df := ⟨"chance_at", ["base", "number"], ["base", "number"], b_chance_at⟩
def b_chance_from : Ss := (.cons (.ife (.cmp .ge (.v 1) (.int 1)) (.cons (.ret (.call "over" (.cons (.call "power_of" (.cons (.v 0) (.cons (.v 1) .nil))) (.cons (.call "plus" (.cons (.g "ONE") (.cons (.v 0) .nil))) .nil)))) .nil) .nil) (.cons (.ret (.call "minus" (.cons (.g "ONE") (.cons (.call "over" (.cons (.call "power_of" (.cons (.v 0) (.cons (.op .sub (.int 1) (.v 1)) .nil))) (.cons (.call "plus" (.cons (.g "ONE") (.cons (.v 0) .nil))) .nil))) .nil)))) .nil))
def f_chance_from : Df := ⟨"chance_from", ["base", "number"], ["base", "number"], b_chance_from⟩
def b_chance_below : Ss := (.cons (.ret (.call "minus" (.cons (.g "ONE") (.cons (.call "chance_from" (.cons (.v 0) (.cons (.v 1) .nil))) .nil)))) .nil)
def f_chance_below : Df := ⟨"chance_below", ["base", "number"], ["base", "number"], b_chance_below⟩
def b_two_sided_by : Ss := (.cons (.ife (.cmp .eq (.v 2) (.v 3)) (.cons (.ret (.tup (.cons (.int 1) (.cons (.tup (.cons (.tup (.cons (.v 2) (.cons (.int 1) .nil))) .nil)) .nil)))) .nil) .nil) (.cons (.new 4 (.nd2 (.v 2) (.call "chance_below" (.cons (.v 1) (.cons (.op .sub (.op .add (.v 2) (.int 1)) (.v 0)) .nil))) (.v 3) (.call "chance_from" (.cons (.v 1) (.cons (.op .sub (.v 3) (.v 0)) .nil))))) (.cons (.for_ (.v 5) (.rng2 (.op .add (.v 2) (.int 1)) (.v 3)) (.cons (.put 4 (.v 5) (.call "chance_at" (.cons (.v 1) (.cons (.op .sub (.v 5) (.v 0)) .nil)))) .nil)) (.cons (.fz 4 (.ret (.call "spread_by" (.cons (.v 4) .nil)))) .nil))))
def f_two_sided_by : Df := ⟨"two_sided_by", ["score", "base", "low", "high"], ["score", "base", "low", "high", "found", "number"], b_two_sided_by⟩
def b_two_sided : Ss := (.cons (.ex (.call "check_noise" (.cons (.and_ (.call "is_score" (.cons (.v 0) .nil)) (.and_ (.call "is_base" (.cons (.v 1) .nil)) (.and_ (.call "is_score" (.cons (.v 2) .nil)) (.call "is_score" (.cons (.v 3) .nil))))) .nil))) (.cons (.ex (.call "check_noise" (.cons (.chain .le .le (.int 0) (.op .sub (.v 3) (.v 2)) (.g "MOST_WIDE")) .nil))) (.cons (.ret (.call "two_sided_by" (.cons (.v 0) (.cons (.v 1) (.cons (.v 2) (.cons (.v 3) .nil)))))) .nil)))
def f_two_sided : Df := ⟨"two_sided", ["score", "base", "low", "high"], ["score", "base", "low", "high"], b_two_sided⟩
def b_are_scores : Ss := (.cons (.ret (.and_ (.isi (.v 0) "tuple") (.and_ (.chain .le .le (.int 1) (.bi .len (.cons (.v 0) .nil)) (.v 1)) (.bi .all (.cons (.lc [2] (.call "is_score" (.cons (.v 2) .nil)) (.v 2) (.seq (.v 0)) .non) .nil))))) .nil)
def f_are_scores : Df := ⟨"are_scores", ["value", "most"], ["value", "most", "one"], b_are_scores⟩
def b_choice_by : Ss := (.cons (.par 2 3 (.ex (.bi .max (.cons (.v 0) .nil))) (.ex (.bi .min (.cons (.v 0) .nil)))) (.cons (.asg (.cons (.v 4) (.cons (.v 5) .nil)) (.v 1)) (.cons (.new 6 .nd) (.cons (.for_ (.cons (.v 7) (.cons (.v 8) .nil)) (.enum (.v 0)) (.cons (.put 6 (.v 7) (.op .mul (.ix (.call "power_of" (.cons (.tup (.cons (.v 4) (.cons (.int 1) .nil))) (.cons (.op .sub (.v 2) (.v 8)) .nil))) (.int 0)) (.ix (.call "power_of" (.cons (.tup (.cons (.v 5) (.cons (.int 1) .nil))) (.cons (.op .sub (.v 8) (.v 3)) .nil))) (.int 0)))) .nil)) (.cons (.fz 6 (.ret (.call "spread_of_weights" (.cons (.v 6) .nil)))) .nil)))))
def f_choice_by : Df := ⟨"choice_by", ["scores", "base"], ["scores", "base", "most", "least", "above", "below", "weights", "index", "score"], b_choice_by⟩
def b_choice : Ss := (.cons (.ex (.call "check_noise" (.cons (.and_ (.call "are_scores" (.cons (.v 0) (.cons (.g "MOST_ANSWERS") .nil))) (.call "is_base" (.cons (.v 1) .nil))) .nil))) (.cons (.ret (.call "choice_by" (.cons (.v 0) (.cons (.v 1) .nil)))) .nil))
def f_choice : Df := ⟨"choice", ["scores", "base"], ["scores", "base"], b_choice⟩
def b__law_draws : Ss := (.cons (.new 2 (.nl .nil)) (.cons (.asg (.v 3) (.int 7)) (.cons (.for_ (.v 4) (.seq (.sl (.v 0) .non (.some (.int 63)))) (.cons (.asg (.v 5) (.bi .abs (.cons (.v 4) .nil))) (.cons (.asg (.v 3) (.op .mod (.bi .int (.cons (.op .add (.op .add (.op .mul (.v 3) (.int 48271)) (.v 5)) (.int 11)) .nil)) (.int 2147483647))) (.cons (.ife (.cmp .ge (.v 5) (.op .pow (.int 10) (.int 18))) (.cons (.for_ (.v 6) (.rng1 (.int 60)) (.cons (.ife (.cmp .gt (.v 5) (.int 0)) (.cons (.app 2 (.op .mod (.bi .int (.cons (.v 5) .nil)) (.int 1009))) (.cons (.asg (.v 5) (.op .fdiv (.v 5) (.int 1009))) .nil)) .nil) .nil)) .nil) (.cons (.app 2 (.op .mod (.op .fdiv (.bi .int (.cons (.op .add (.op .mul (.v 3) (.int 16807)) (.int 5)) .nil)) (.int 3)) (.int 65521))) .nil)) .nil)))) (.cons (.for_ (.v 6) (.rng1 (.v 1)) (.cons (.ife (.cmp .lt (.olen 2) (.v 1)) (.cons (.asg (.v 3) (.op .mod (.bi .int (.cons (.op .add (.op .add (.op .mul (.v 3) (.int 69621)) (.v 6)) (.int 1)) .nil)) (.int 2147483647))) (.cons (.app 2 (.op .mod (.op .fdiv (.bi .int (.cons (.v 3) .nil)) (.int 7)) (.int 65521))) .nil)) .nil) .nil)) (.cons (.fz 2 (.ret (.sl (.v 2) .non (.some (.v 1))))) .nil)))))
def f__law_draws : Df := ⟨"_law_draws", ["script", "many"], ["script", "many", "draws", "seed", "cell", "number", "k"], b__law_draws⟩
def b__law_common : Ss := (.cons (.for_ (.v 2) (.rng1 (.int 4000)) (.cons (.ife (.cmp .eq (.v 1) (.int 0)) (.cons (.ret (.v 0)) .nil) .nil) (.cons (.par 0 1 (.ex (.v 1)) (.ex (.op .mod (.v 0) (.v 1)))) .nil))) (.cons (.ret (.v 0)) .nil))
def f__law_common : Df := ⟨"_law_common", ["one", "other"], ["one", "other", "k"], b__law_common⟩
def b__law_lowest : Ss := (.cons (.asg (.v 2) (.call "_law_common" (.cons (.bi .abs (.cons (.v 0) .nil)) (.cons (.v 1) .nil)))) (.cons (.ret (.tup (.cons (.op .fdiv (.v 0) (.v 2)) (.cons (.op .fdiv (.v 1) (.v 2)) .nil)))) .nil))
def f__law_lowest : Df := ⟨"_law_lowest", ["above", "below"], ["above", "below", "common"], b__law_lowest⟩
def b__law_times : Ss := (.cons (.ret (.call "_law_lowest" (.cons (.op .mul (.ix (.v 0) (.int 0)) (.ix (.v 1) (.int 0))) (.cons (.op .mul (.ix (.v 0) (.int 1)) (.ix (.v 1) (.int 1))) .nil)))) .nil)
def f__law_times : Df := ⟨"_law_times", ["one", "other"], ["one", "other"], b__law_times⟩
def b__law_plus : Ss := (.cons (.ret (.call "_law_lowest" (.cons (.op .add (.op .mul (.ix (.v 0) (.int 0)) (.ix (.v 1) (.int 1))) (.op .mul (.ix (.v 1) (.int 0)) (.ix (.v 0) (.int 1)))) (.cons (.op .mul (.ix (.v 0) (.int 1)) (.ix (.v 1) (.int 1))) .nil)))) .nil)
def f__law_plus : Df := ⟨"_law_plus", ["one", "other"], ["one", "other"], b__law_plus⟩
def b__law_minus : Ss := (.cons (.ret (.call "_law_plus" (.cons (.v 0) (.cons (.tup (.cons (.op .sub (.int 0) (.ix (.v 1) (.int 0))) (.cons (.ix (.v 1) (.int 1)) .nil))) .nil)))) .nil)
def f__law_minus : Df := ⟨"_law_minus", ["one", "other"], ["one", "other"], b__law_minus⟩
def b__law_is_above : Ss := (.cons (.ret (.cmp .gt (.op .mul (.ix (.v 0) (.int 0)) (.ix (.v 1) (.int 1))) (.op .mul (.ix (.v 1) (.int 0)) (.ix (.v 0) (.int 1))))) .nil)
def f__law_is_above : Df := ⟨"_law_is_above", ["one", "other"], ["one", "other"], b__law_is_above⟩
def b__law_made : Ss := (.cons (.asg (.v 1) (.bi .sorted (.cons (.lc [5] (.v 5) (.v 5) (.seq (.v 0)) (.some (.cmp .gt (.ix (.v 5) (.int 1)) (.int 0)))) .nil))) (.cons (.asg (.v 2) (.int 0)) (.cons (.for_ (.cons (.v 3) (.cons (.v 4) .nil)) (.seq (.v 1)) (.cons (.asg (.v 2) (.call "_law_common" (.cons (.v 2) (.cons (.v 4) .nil)))) .nil)) (.cons (.asg (.v 1) (.lc [3, 4] (.tup (.cons (.v 3) (.cons (.op .fdiv (.v 4) (.v 2)) .nil))) (.cons (.v 3) (.cons (.v 4) .nil)) (.seq (.v 1)) .non)) (.cons (.ret (.tup (.cons (.bi .sum (.cons (.lc [3, 4] (.v 4) (.cons (.v 3) (.cons (.v 4) .nil)) (.seq (.v 1)) .non) .nil)) (.cons (.bi .tuple (.cons (.v 1) .nil)) .nil)))) .nil)))))
def f__law_made : Df := ⟨"_law_made", ["pairs"], ["pairs", "rows", "common", "value", "weight", "pair"], b__law_made⟩
def b__law_spread : Ss := (.cons (.asg (.v 2) (.lc [3] (.tup (.cons (.v 3) (.cons (.op .mul (.op .mod (.bi .int (.cons (.ix (.v 0) (.v 3)) .nil)) (.int 7)) (.op .mod (.bi .int (.cons (.ix (.v 0) (.op .add (.v 3) (.v 1))) .nil)) (.int 3))) .nil))) (.v 3) (.rng1 (.v 1)) .non)) (.cons (.ret (.ite (.cmp .gt (.bi .sum (.cons (.lc [4, 5] (.v 5) (.cons (.v 4) (.cons (.v 5) .nil)) (.seq (.v 2)) .non) .nil)) (.int 0)) (.call "_law_made" (.cons (.v 2) .nil)) (.tup (.cons (.int 1) (.cons (.tup (.cons (.tup (.cons (.op .mod (.bi .int (.cons (.ix (.v 0) (.int 0)) .nil)) (.v 1)) (.cons (.int 1) .nil))) .nil)) .nil))))) .nil))
def f__law_spread : Df := ⟨"_law_spread", ["draws", "size"], ["draws", "size", "pairs", "k", "value", "weight"], b__law_spread⟩
def b__law_full : Ss := (.cons (.ret (.call "_law_made" (.cons (.lc [2] (.tup (.cons (.v 2) (.cons (.op .add (.int 1) (.op .mod (.bi .int (.cons (.ix (.v 0) (.v 2)) .nil)) (.int 6))) .nil))) (.v 2) (.rng1 (.v 1)) .non) .nil))) .nil)
def f__law_full : Df := ⟨"_law_full", ["draws", "size"], ["draws", "size", "k"], b__law_full⟩
def b__law_power : Ss := (.cons (.asg (.v 2) (.tup (.cons (.int 1) (.cons (.int 1) .nil)))) (.cons (.for_ (.v 3) (.rng1 (.v 1)) (.cons (.asg (.v 2) (.call "_law_times" (.cons (.v 2) (.cons (.v 0) .nil)))) .nil)) (.cons (.ret (.v 2)) .nil)))
def f__law_power : Df := ⟨"_law_power", ["base", "many"], ["base", "many", "found", "k"], b__law_power⟩
def b_law : Ss := (.cons (.asg (.v 1) (.call "_law_draws" (.cons (.v 0) (.cons (.int 300) .nil)))) (.cons (.asg (.v 2) (.lst (.cons (.tup (.cons (.int 1) (.cons (.int 2) .nil))) (.cons (.tup (.cons (.int 1) (.cons (.int 3) .nil))) (.cons (.tup (.cons (.int 2) (.cons (.int 3) .nil))) (.cons (.tup (.cons (.int 1) (.cons (.int 4) .nil))) (.cons (.tup (.cons (.int 3) (.cons (.int 4) .nil))) (.cons (.tup (.cons (.int 2) (.cons (.int 5) .nil))) (.cons (.tup (.cons (.int 1) (.cons (.int 5) .nil))) .nil))))))))) (.cons (.for_ (.v 3) (.rng1 (.int 6)) (.cons (.asg (.v 4) (.ix (.v 2) (.op .mod (.bi .int (.cons (.ix (.v 1) (.v 3)) .nil)) (.int 7)))) (.cons (.asg (.v 5) (.op .sub (.op .mod (.bi .int (.cons (.ix (.v 1) (.op .add (.int 10) (.v 3))) .nil)) (.int 9)) (.int 4))) (.cons (.asg (.v 6) (.op .add (.v 5) (.op .mod (.bi .int (.cons (.ix (.v 1) (.op .add (.int 20) (.v 3))) .nil)) (.int 6)))) (.cons (.asg (.cons (.v 7) (.cons (.v 8) .nil)) (.tup (.cons (.op .sub (.op .mod (.bi .int (.cons (.ix (.v 1) (.op .add (.int 30) (.v 3))) .nil)) (.int 15)) (.int 7)) (.cons (.op .sub (.op .mod (.bi .int (.cons (.ix (.v 1) (.op .add (.int 40) (.v 3))) .nil)) (.int 9)) (.int 4)) .nil)))) (.cons (.asg (.v 9) (.call "two_sided" (.cons (.v 7) (.cons (.v 4) (.cons (.v 5) (.cons (.v 6) .nil)))))) (.cons (.ife (.cmp .ne (.call "two_sided" (.cons (.op .add (.v 7) (.v 8)) (.cons (.v 4) (.cons (.op .add (.v 5) (.v 8)) (.cons (.op .add (.v 6) (.v 8)) .nil))))) (.call "mapped" (.cons (.v 9) (.cons (.bi .tuple (.cons (.lc [15] (.tup (.cons (.v 15) (.cons (.op .add (.v 15) (.v 8)) .nil))) (.v 15) (.rng2 (.v 5) (.op .add (.v 6) (.int 1))) .non) .nil)) .nil)))) (.cons (.ret (.bl false)) .nil) .nil) (.cons (.ife (.cmp .ne (.call "two_sided" (.cons (.op .sub (.int 0) (.v 7)) (.cons (.v 4) (.cons (.op .sub (.int 0) (.v 6)) (.cons (.op .sub (.int 0) (.v 5)) .nil))))) (.call "mapped" (.cons (.v 9) (.cons (.bi .tuple (.cons (.lc [15] (.tup (.cons (.v 15) (.cons (.op .sub (.int 0) (.v 15)) .nil))) (.v 15) (.rng2 (.v 5) (.op .add (.v 6) (.int 1))) .non) .nil)) .nil)))) (.cons (.ret (.bl false)) .nil) .nil) (.cons (.asg (.v 10) (.op .mod (.bi .int (.cons (.ix (.v 1) (.op .add (.int 50) (.v 3))) .nil)) (.int 4))) (.cons (.asg (.v 11) (.call "two_sided" (.cons (.v 7) (.cons (.v 4) (.cons (.op .sub (.v 5) (.v 10)) (.cons (.op .add (.v 6) (.op .mul (.int 2) (.v 10))) .nil)))))) (.cons (.ife (.cmp .ne (.call "mapped" (.cons (.v 11) (.cons (.bi .tuple (.cons (.lc [15] (.tup (.cons (.v 15) (.cons (.bi .max (.cons (.v 5) (.cons (.bi .min (.cons (.v 6) (.cons (.v 15) .nil))) .nil))) .nil))) (.v 15) (.rng2 (.op .sub (.v 5) (.v 10)) (.op .add (.op .add (.v 6) (.op .mul (.int 2) (.v 10))) (.int 1))) .non) .nil)) .nil))) (.v 9)) (.cons (.ret (.bl false)) .nil) .nil) (.cons (.par3 12 13 14 (.ex (.call "two_sided" (.cons (.op .add (.op .add (.v 7) (.int 1)) (.v 10)) (.cons (.v 4) (.cons (.v 5) (.cons (.v 6) .nil)))))) (.ex (.tup (.cons (.int 0) (.cons (.int 1) .nil)))) (.ex (.tup (.cons (.int 0) (.cons (.int 1) .nil))))) (.cons (.for_ (.v 15) (.rng3 (.v 6) (.op .sub (.v 5) (.int 1)) (.neg (.int 1))) (.cons (.par 13 14 (.ex (.call "_law_plus" (.cons (.v 13) (.cons (.call "chance_of" (.cons (.v 9) (.cons (.v 15) .nil))) .nil)))) (.ex (.call "_law_plus" (.cons (.v 14) (.cons (.call "chance_of" (.cons (.v 12) (.cons (.v 15) .nil))) .nil))))) (.cons (.ife (.call "_law_is_above" (.cons (.v 13) (.cons (.v 14) .nil))) (.cons (.ret (.bl false)) .nil) .nil) .nil))) (.cons (.asg (.v 16) (.bi .tuple (.cons (.lc [15] (.op .sub (.op .mod (.bi .int (.cons (.ix (.v 1) (.op .add (.op .add (.int 60) (.op .mul (.int 6) (.v 3))) (.v 15))) .nil)) (.int 7)) (.int 3)) (.v 15) (.rng1 (.op .add (.int 2) (.op .mod (.bi .int (.cons (.ix (.v 1) (.op .add (.int 100) (.v 3))) .nil)) (.int 4)))) .non) .nil))) (.cons (.asg (.cons (.v 17) (.cons (.v 18) .nil)) (.tup (.cons (.call "choice" (.cons (.v 16) (.cons (.v 4) .nil))) (.cons (.bi .len (.cons (.v 16) .nil)) .nil)))) (.cons (.asg (.v 19) (.rev (.lrng (.v 18)))) (.cons (.ife (.cmp .ne (.call "choice" (.cons (.bi .tuple (.cons (.lc [15] (.ix (.v 16) (.v 15)) (.v 15) (.seq (.v 19)) .non) .nil)) (.cons (.v 4) .nil))) (.call "mapped" (.cons (.v 17) (.cons (.bi .tuple (.cons (.lc [15] (.tup (.cons (.ix (.v 19) (.v 15)) (.cons (.v 15) .nil))) (.v 15) (.rng1 (.v 18)) .non) .nil)) .nil)))) (.cons (.ret (.bl false)) .nil) .nil) (.cons (.for_ (.v 20) (.rng1 (.v 18)) (.cons (.for_ (.v 15) (.rng1 (.v 18)) (.cons (.ife (.and_ (.cmp .ge (.ix (.v 16) (.v 20)) (.ix (.v 16) (.v 15))) (.cmp .ne (.call "_law_times" (.cons (.call "chance_of" (.cons (.v 17) (.cons (.v 20) .nil))) (.cons (.call "_law_power" (.cons (.v 4) (.cons (.op .sub (.ix (.v 16) (.v 20)) (.ix (.v 16) (.v 15))) .nil))) .nil))) (.call "chance_of" (.cons (.v 17) (.cons (.v 15) .nil))))) (.cons (.ret (.bl false)) .nil) .nil) .nil)) .nil)) (.cons (.ife (.cmp .gt (.v 18) (.int 2)) (.cons (.asg (.v 21) (.call "choice" (.cons (.sl (.v 16) (.some (.int 1)) .non) (.cons (.v 4) .nil)))) (.cons (.asg (.v 22) (.call "_law_minus" (.cons (.tup (.cons (.int 1) (.cons (.int 1) .nil))) (.cons (.call "chance_of" (.cons (.v 17) (.cons (.int 0) .nil))) .nil)))) (.cons (.ife (.bi .any (.cons (.lc [15] (.cmp .ne (.call "_law_times" (.cons (.v 22) (.cons (.call "chance_of" (.cons (.v 21) (.cons (.v 15) .nil))) .nil))) (.call "chance_of" (.cons (.v 17) (.cons (.op .add (.v 15) (.int 1)) .nil)))) (.v 15) (.rng1 (.op .sub (.v 18) (.int 1))) .non) .nil)) (.cons (.ret (.bl false)) .nil) .nil) .nil))) .nil) (.cons (.ife (.cmp .ne (.call "choice" (.cons (.bi .tuple (.cons (.lc [23] (.op .add (.v 23) (.v 8)) (.v 23) (.seq (.v 16)) .non) .nil)) (.cons (.v 4) .nil))) (.v 17)) (.cons (.ret (.bl false)) .nil) .nil) .nil)))))))))))))))))))) (.cons (.ret (.bl true)) .nil))))
def f_law : Df := ⟨"law", ["script"], ["script", "draws", "bases", "turn", "base", "low", "high", "score", "move", "own", "wide", "wider", "more", "here", "there", "k", "scores", "chosen", "many", "order", "j", "less", "rest", "one"], b_law⟩
def dfs : List Df := [f_law, f__law_power, f__law_full, f__law_spread, f__law_made, f__law_is_above, f__law_minus, f__law_plus, f__law_times, f__law_lowest, f__law_common, f__law_draws, f_choice, f_choice_by, f_are_scores, f_two_sided, f_two_sided_by, f_chance_below, f_chance_from, f_chance_at, f_check_noise, f_is_score, f_is_base, f_mapped, f__by_values, f_chance_of, f_shares_of, f_are_pairs, f_spread_by, f_spread_of_weights, f_check_spread, f_spread_fault, f_common_of, f__is_weighed, f_are_of_one_sort, f_is_row, f_is_value, f_power_of, f_over, f_times, f_minus, f_plus, f_least_pair, f_is_fraction, f_is_integer]
def fn : List He.DefD := [mkD "is_integer" 10, mkD "is_fraction" 11, mkD "least_pair" 12, mkD "plus" 13, mkD "minus" 14, mkD "times" 15, mkD "over" 16, mkD "power_of" 17, mkD "is_value" 21, mkD "is_row" 22, mkD "are_of_one_sort" 23, mkD "_is_weighed" 24, mkD "common_of" 26, mkD "spread_fault" 25, mkD "check_spread" 27, mkD "spread_of_weights" 28, mkD "spread_by" 29, mkD "are_pairs" 30, mkD "shares_of" 31, mkD "chance_of" 32, mkD "_by_values" 33, mkD "mapped" 34, mkD "is_base" 40, mkD "is_score" 41, mkD "check_noise" 42, mkD "chance_at" 43, mkD "chance_from" 44, mkD "chance_below" 45, mkD "two_sided_by" 46, mkD "two_sided" 47, mkD "are_scores" 48, mkD "choice_by" 49, mkD "choice" 50, mkD "_law_draws" 52, mkD "_law_common" 53, mkD "_law_lowest" 54, mkD "_law_times" 55, mkD "_law_plus" 56, mkD "_law_minus" 57, mkD "_law_is_above" 58, mkD "_law_made" 59, mkD "_law_spread" 60, mkD "_law_full" 61, mkD "_law_power" 62, mkD "law" 63]
def frs : List Str := ["abs", "all", "any", "bool", "dict", "enumerate", "int", "isinstance", "len", "list", "max", "min", "range", "sorted", "sum", "tuple"]
def mts : List (Str × Bi) := [("gcd", .gcd), ("lcm", .lcm)]
def cns : List (Str × Cv) := [("NOUGHT", .tup [.inl 0, .inl 1]), ("ONE", .tup [.inl 1, .inl 1]), ("MOST_VALUES", .int 5000), ("FORM", .tup [.inr "form"]), ("MOST_SCORE", .int 200), ("MOST_WIDE", .int 40), ("MOST_BELOW", .int 5), ("MOST_ANSWERS", .int 20)]
def fa : List He.Fa := [.glo "is_integer", .glo "is_fraction", .glo "least_pair", .glo "plus", .glo "minus", .glo "times", .glo "over", .glo "power_of", .glo "is_value", .glo "is_row", .glo "are_of_one_sort", .glo "_is_weighed", .glo "common_of", .glo "spread_fault", .glo "check_spread", .glo "spread_of_weights", .glo "spread_by", .glo "are_pairs", .glo "shares_of", .glo "chance_of", .glo "_by_values", .glo "mapped", .glo "is_base", .glo "is_score", .glo "check_noise", .glo "chance_at", .glo "chance_from", .glo "chance_below", .glo "two_sided_by", .glo "two_sided", .glo "are_scores", .glo "choice_by", .glo "choice", .glo "_law_draws", .glo "_law_common", .glo "_law_lowest", .glo "_law_times", .glo "_law_plus", .glo "_law_minus", .glo "_law_is_above", .glo "_law_made", .glo "_law_spread", .glo "_law_full", .glo "_law_power", .glo "law"] ++ frs.map He.Fa.free
theorem s_is_integer : FnScope f_is_integer.N f_is_integer.ps (defScope (top 10)) := ⟨rfl, rfl, rfl, by decide +kernel, rfl, by decide +kernel, by decide +kernel⟩
theorem m_is_integer : mSs ⟨f_is_integer.N, frs, mts⟩ (defScope (top 10)) f_is_integer.body (defBody (top 10)) = true := by decide +kernel
theorem s_is_fraction : FnScope f_is_fraction.N f_is_fraction.ps (defScope (top 11)) := ⟨rfl, rfl, rfl, by decide +kernel, rfl, by decide +kernel, by decide +kernel⟩
theorem m_is_fraction : mSs ⟨f_is_fraction.N, frs, mts⟩ (defScope (top 11)) f_is_fraction.body (defBody (top 11)) = true := by decide +kernel
theorem s_least_pair : FnScope f_least_pair.N f_least_pair.ps (defScope (top 12)) := ⟨rfl, rfl, rfl, by decide +kernel, rfl, by decide +kernel, by decide +kernel⟩
theorem m_least_pair : mSs ⟨f_least_pair.N, frs, mts⟩ (defScope (top 12)) f_least_pair.body (defBody (top 12)) = true := by decide +kernel
theorem s_plus : FnScope f_plus.N f_plus.ps (defScope (top 13)) := ⟨rfl, rfl, rfl, by decide +kernel, rfl, by decide +kernel, by decide +kernel⟩
theorem m_plus : mSs ⟨f_plus.N, frs, mts⟩ (defScope (top 13)) f_plus.body (defBody (top 13)) = true := by decide +kernel
theorem s_minus : FnScope f_minus.N f_minus.ps (defScope (top 14)) := ⟨rfl, rfl, rfl, by decide +kernel, rfl, by decide +kernel, by decide +kernel⟩
theorem m_minus : mSs ⟨f_minus.N, frs, mts⟩ (defScope (top 14)) f_minus.body (defBody (top 14)) = true := by decide +kernel
theorem s_times : FnScope f_times.N f_times.ps (defScope (top 15)) := ⟨rfl, rfl, rfl, by decide +kernel, rfl, by decide +kernel, by decide +kernel⟩
theorem m_times : mSs ⟨f_times.N, frs, mts⟩ (defScope (top 15)) f_times.body (defBody (top 15)) = true := by decide +kernel
theorem s_over : FnScope f_over.N f_over.ps (defScope (top 16)) := ⟨rfl, rfl, rfl, by decide +kernel, rfl, by decide +kernel, by decide +kernel⟩
theorem m_over : mSs ⟨f_over.N, frs, mts⟩ (defScope (top 16)) f_over.body (defBody (top 16)) = true := by decide +kernel
theorem s_power_of : FnScope f_power_of.N f_power_of.ps (defScope (top 17)) := ⟨rfl, rfl, rfl, by decide +kernel, rfl, by decide +kernel, by decide +kernel⟩
theorem m_power_of : mSs ⟨f_power_of.N, frs, mts⟩ (defScope (top 17)) f_power_of.body (defBody (top 17)) = true := by decide +kernel
theorem s_is_value : FnScope f_is_value.N f_is_value.ps (defScope (top 21)) := ⟨rfl, rfl, rfl, by decide +kernel, rfl, by decide +kernel, by decide +kernel⟩
theorem m_is_value : mSs ⟨f_is_value.N, frs, mts⟩ (defScope (top 21)) f_is_value.body (defBody (top 21)) = true := by decide +kernel
theorem s_is_row : FnScope f_is_row.N f_is_row.ps (defScope (top 22)) := ⟨rfl, rfl, rfl, by decide +kernel, rfl, by decide +kernel, by decide +kernel⟩
theorem m_is_row : mSs ⟨f_is_row.N, frs, mts⟩ (defScope (top 22)) f_is_row.body (defBody (top 22)) = true := by decide +kernel
theorem s_are_of_one_sort : FnScope f_are_of_one_sort.N f_are_of_one_sort.ps (defScope (top 23)) := ⟨rfl, rfl, rfl, by decide +kernel, rfl, by decide +kernel, by decide +kernel⟩
theorem m_are_of_one_sort : mSs ⟨f_are_of_one_sort.N, frs, mts⟩ (defScope (top 23)) f_are_of_one_sort.body (defBody (top 23)) = true := by decide +kernel
theorem s__is_weighed : FnScope f__is_weighed.N f__is_weighed.ps (defScope (top 24)) := ⟨rfl, rfl, rfl, by decide +kernel, rfl, by decide +kernel, by decide +kernel⟩
theorem m__is_weighed : mSs ⟨f__is_weighed.N, frs, mts⟩ (defScope (top 24)) f__is_weighed.body (defBody (top 24)) = true := by decide +kernel
theorem s_common_of : FnScope f_common_of.N f_common_of.ps (defScope (top 26)) := ⟨rfl, rfl, rfl, by decide +kernel, rfl, by decide +kernel, by decide +kernel⟩
theorem m_common_of : mSs ⟨f_common_of.N, frs, mts⟩ (defScope (top 26)) f_common_of.body (defBody (top 26)) = true := by decide +kernel
theorem s_spread_fault : FnScope f_spread_fault.N f_spread_fault.ps (defScope (top 25)) := ⟨rfl, rfl, rfl, by decide +kernel, rfl, by decide +kernel, by decide +kernel⟩
theorem m_spread_fault : mSs ⟨f_spread_fault.N, frs, mts⟩ (defScope (top 25)) f_spread_fault.body (defBody (top 25)) = true := by decide +kernel
theorem s_check_spread : FnScope f_check_spread.N f_check_spread.ps (defScope (top 27)) := ⟨rfl, rfl, rfl, by decide +kernel, rfl, by decide +kernel, by decide +kernel⟩
theorem m_check_spread : mSs ⟨f_check_spread.N, frs, mts⟩ (defScope (top 27)) f_check_spread.body (defBody (top 27)) = true := by decide +kernel
theorem s_spread_of_weights : FnScope f_spread_of_weights.N f_spread_of_weights.ps (defScope (top 28)) := ⟨rfl, rfl, rfl, by decide +kernel, rfl, by decide +kernel, by decide +kernel⟩
theorem m_spread_of_weights : mSs ⟨f_spread_of_weights.N, frs, mts⟩ (defScope (top 28)) f_spread_of_weights.body (defBody (top 28)) = true := by decide +kernel
theorem s_spread_by : FnScope f_spread_by.N f_spread_by.ps (defScope (top 29)) := ⟨rfl, rfl, rfl, by decide +kernel, rfl, by decide +kernel, by decide +kernel⟩
theorem m_spread_by : mSs ⟨f_spread_by.N, frs, mts⟩ (defScope (top 29)) f_spread_by.body (defBody (top 29)) = true := by decide +kernel
theorem s_are_pairs : FnScope f_are_pairs.N f_are_pairs.ps (defScope (top 30)) := ⟨rfl, rfl, rfl, by decide +kernel, rfl, by decide +kernel, by decide +kernel⟩
theorem m_are_pairs : mSs ⟨f_are_pairs.N, frs, mts⟩ (defScope (top 30)) f_are_pairs.body (defBody (top 30)) = true := by decide +kernel
theorem s_shares_of : FnScope f_shares_of.N f_shares_of.ps (defScope (top 31)) := ⟨rfl, rfl, rfl, by decide +kernel, rfl, by decide +kernel, by decide +kernel⟩
theorem m_shares_of : mSs ⟨f_shares_of.N, frs, mts⟩ (defScope (top 31)) f_shares_of.body (defBody (top 31)) = true := by decide +kernel
theorem s_chance_of : FnScope f_chance_of.N f_chance_of.ps (defScope (top 32)) := ⟨rfl, rfl, rfl, by decide +kernel, rfl, by decide +kernel, by decide +kernel⟩
theorem m_chance_of : mSs ⟨f_chance_of.N, frs, mts⟩ (defScope (top 32)) f_chance_of.body (defBody (top 32)) = true := by decide +kernel
theorem s__by_values : FnScope f__by_values.N f__by_values.ps (defScope (top 33)) := ⟨rfl, rfl, rfl, by decide +kernel, rfl, by decide +kernel, by decide +kernel⟩
theorem m__by_values : mSs ⟨f__by_values.N, frs, mts⟩ (defScope (top 33)) f__by_values.body (defBody (top 33)) = true := by decide +kernel
theorem s_mapped : FnScope f_mapped.N f_mapped.ps (defScope (top 34)) := ⟨rfl, rfl, rfl, by decide +kernel, rfl, by decide +kernel, by decide +kernel⟩
theorem m_mapped : mSs ⟨f_mapped.N, frs, mts⟩ (defScope (top 34)) f_mapped.body (defBody (top 34)) = true := by decide +kernel
theorem s_is_base : FnScope f_is_base.N f_is_base.ps (defScope (top 40)) := ⟨rfl, rfl, rfl, by decide +kernel, rfl, by decide +kernel, by decide +kernel⟩
theorem m_is_base : mSs ⟨f_is_base.N, frs, mts⟩ (defScope (top 40)) f_is_base.body (defBody (top 40)) = true := by decide +kernel
theorem s_is_score : FnScope f_is_score.N f_is_score.ps (defScope (top 41)) := ⟨rfl, rfl, rfl, by decide +kernel, rfl, by decide +kernel, by decide +kernel⟩
theorem m_is_score : mSs ⟨f_is_score.N, frs, mts⟩ (defScope (top 41)) f_is_score.body (defBody (top 41)) = true := by decide +kernel
theorem s_check_noise : FnScope f_check_noise.N f_check_noise.ps (defScope (top 42)) := ⟨rfl, rfl, rfl, by decide +kernel, rfl, by decide +kernel, by decide +kernel⟩
theorem m_check_noise : mSs ⟨f_check_noise.N, frs, mts⟩ (defScope (top 42)) f_check_noise.body (defBody (top 42)) = true := by decide +kernel
theorem s_chance_at : FnScope f_chance_at.N f_chance_at.ps (defScope (top 43)) := ⟨rfl, rfl, rfl, by decide +kernel, rfl, by decide +kernel, by decide +kernel⟩
theorem m_chance_at : mSs ⟨f_chance_at.N, frs, mts⟩ (defScope (top 43)) f_chance_at.body (defBody (top 43)) = true := by decide +kernel
theorem s_chance_from : FnScope f_chance_from.N f_chance_from.ps (defScope (top 44)) := ⟨rfl, rfl, rfl, by decide +kernel, rfl, by decide +kernel, by decide +kernel⟩
theorem m_chance_from : mSs ⟨f_chance_from.N, frs, mts⟩ (defScope (top 44)) f_chance_from.body (defBody (top 44)) = true := by decide +kernel
theorem s_chance_below : FnScope f_chance_below.N f_chance_below.ps (defScope (top 45)) := ⟨rfl, rfl, rfl, by decide +kernel, rfl, by decide +kernel, by decide +kernel⟩
theorem m_chance_below : mSs ⟨f_chance_below.N, frs, mts⟩ (defScope (top 45)) f_chance_below.body (defBody (top 45)) = true := by decide +kernel
theorem s_two_sided_by : FnScope f_two_sided_by.N f_two_sided_by.ps (defScope (top 46)) := ⟨rfl, rfl, rfl, by decide +kernel, rfl, by decide +kernel, by decide +kernel⟩
theorem m_two_sided_by : mSs ⟨f_two_sided_by.N, frs, mts⟩ (defScope (top 46)) f_two_sided_by.body (defBody (top 46)) = true := by decide +kernel
theorem s_two_sided : FnScope f_two_sided.N f_two_sided.ps (defScope (top 47)) := ⟨rfl, rfl, rfl, by decide +kernel, rfl, by decide +kernel, by decide +kernel⟩
theorem m_two_sided : mSs ⟨f_two_sided.N, frs, mts⟩ (defScope (top 47)) f_two_sided.body (defBody (top 47)) = true := by decide +kernel
theorem s_are_scores : FnScope f_are_scores.N f_are_scores.ps (defScope (top 48)) := ⟨rfl, rfl, rfl, by decide +kernel, rfl, by decide +kernel, by decide +kernel⟩
theorem m_are_scores : mSs ⟨f_are_scores.N, frs, mts⟩ (defScope (top 48)) f_are_scores.body (defBody (top 48)) = true := by decide +kernel
theorem s_choice_by : FnScope f_choice_by.N f_choice_by.ps (defScope (top 49)) := ⟨rfl, rfl, rfl, by decide +kernel, rfl, by decide +kernel, by decide +kernel⟩
theorem m_choice_by : mSs ⟨f_choice_by.N, frs, mts⟩ (defScope (top 49)) f_choice_by.body (defBody (top 49)) = true := by decide +kernel
theorem s_choice : FnScope f_choice.N f_choice.ps (defScope (top 50)) := ⟨rfl, rfl, rfl, by decide +kernel, rfl, by decide +kernel, by decide +kernel⟩
theorem m_choice : mSs ⟨f_choice.N, frs, mts⟩ (defScope (top 50)) f_choice.body (defBody (top 50)) = true := by decide +kernel
theorem s__law_draws : FnScope f__law_draws.N f__law_draws.ps (defScope (top 52)) := ⟨rfl, rfl, rfl, by decide +kernel, rfl, by decide +kernel, by decide +kernel⟩
theorem m__law_draws : mSs ⟨f__law_draws.N, frs, mts⟩ (defScope (top 52)) f__law_draws.body (defBody (top 52)) = true := by decide +kernel
theorem s__law_common : FnScope f__law_common.N f__law_common.ps (defScope (top 53)) := ⟨rfl, rfl, rfl, by decide +kernel, rfl, by decide +kernel, by decide +kernel⟩
theorem m__law_common : mSs ⟨f__law_common.N, frs, mts⟩ (defScope (top 53)) f__law_common.body (defBody (top 53)) = true := by decide +kernel
theorem s__law_lowest : FnScope f__law_lowest.N f__law_lowest.ps (defScope (top 54)) := ⟨rfl, rfl, rfl, by decide +kernel, rfl, by decide +kernel, by decide +kernel⟩
theorem m__law_lowest : mSs ⟨f__law_lowest.N, frs, mts⟩ (defScope (top 54)) f__law_lowest.body (defBody (top 54)) = true := by decide +kernel
theorem s__law_times : FnScope f__law_times.N f__law_times.ps (defScope (top 55)) := ⟨rfl, rfl, rfl, by decide +kernel, rfl, by decide +kernel, by decide +kernel⟩
theorem m__law_times : mSs ⟨f__law_times.N, frs, mts⟩ (defScope (top 55)) f__law_times.body (defBody (top 55)) = true := by decide +kernel
theorem s__law_plus : FnScope f__law_plus.N f__law_plus.ps (defScope (top 56)) := ⟨rfl, rfl, rfl, by decide +kernel, rfl, by decide +kernel, by decide +kernel⟩
theorem m__law_plus : mSs ⟨f__law_plus.N, frs, mts⟩ (defScope (top 56)) f__law_plus.body (defBody (top 56)) = true := by decide +kernel
theorem s__law_minus : FnScope f__law_minus.N f__law_minus.ps (defScope (top 57)) := ⟨rfl, rfl, rfl, by decide +kernel, rfl, by decide +kernel, by decide +kernel⟩
theorem m__law_minus : mSs ⟨f__law_minus.N, frs, mts⟩ (defScope (top 57)) f__law_minus.body (defBody (top 57)) = true := by decide +kernel
theorem s__law_is_above : FnScope f__law_is_above.N f__law_is_above.ps (defScope (top 58)) := ⟨rfl, rfl, rfl, by decide +kernel, rfl, by decide +kernel, by decide +kernel⟩
theorem m__law_is_above : mSs ⟨f__law_is_above.N, frs, mts⟩ (defScope (top 58)) f__law_is_above.body (defBody (top 58)) = true := by decide +kernel
theorem s__law_made : FnScope f__law_made.N f__law_made.ps (defScope (top 59)) := ⟨rfl, rfl, rfl, by decide +kernel, rfl, by decide +kernel, by decide +kernel⟩
theorem m__law_made : mSs ⟨f__law_made.N, frs, mts⟩ (defScope (top 59)) f__law_made.body (defBody (top 59)) = true := by decide +kernel
theorem s__law_spread : FnScope f__law_spread.N f__law_spread.ps (defScope (top 60)) := ⟨rfl, rfl, rfl, by decide +kernel, rfl, by decide +kernel, by decide +kernel⟩
theorem m__law_spread : mSs ⟨f__law_spread.N, frs, mts⟩ (defScope (top 60)) f__law_spread.body (defBody (top 60)) = true := by decide +kernel
theorem s__law_full : FnScope f__law_full.N f__law_full.ps (defScope (top 61)) := ⟨rfl, rfl, rfl, by decide +kernel, rfl, by decide +kernel, by decide +kernel⟩
theorem m__law_full : mSs ⟨f__law_full.N, frs, mts⟩ (defScope (top 61)) f__law_full.body (defBody (top 61)) = true := by decide +kernel
theorem s__law_power : FnScope f__law_power.N f__law_power.ps (defScope (top 62)) := ⟨rfl, rfl, rfl, by decide +kernel, rfl, by decide +kernel, by decide +kernel⟩
theorem m__law_power : mSs ⟨f__law_power.N, frs, mts⟩ (defScope (top 62)) f__law_power.body (defBody (top 62)) = true := by decide +kernel
theorem s_law : FnScope f_law.N f_law.ps (defScope (top 63)) := ⟨rfl, rfl, rfl, by decide +kernel, rfl, by decide +kernel, by decide +kernel⟩
theorem m_law : mSs ⟨f_law.N, frs, mts⟩ (defScope (top 63)) f_law.body (defBody (top 63)) = true := by decide +kernel
section
variable {K : PySem.W.Frag} {h : Heap} {mg : Str → Option Value} (X : K.In h) (G : h.Ns mainGlobals mg) (c : SaysP fa cns mts fn K)
include X G c
theorem mem_fr {x : Str} (hx : frs.contains x = true) : He.Fa.free x ∈ fa := List.mem_append_right _ (List.mem_map.mpr ⟨x, by simpa using hx, rfl⟩)
theorem o_is_integer : DfOk K mg frs mts f_is_integer := by
  obtain ⟨fd, F⟩ := c.all.2.2.2 (mkD "is_integer" 10) (List.mem_of_getElem? (i := 0) rfl)
  exact ⟨_, _, _, _, _, fd, F, He.glo_ok X G (c.all.1 (.glo "is_integer") (List.mem_of_getElem? (i := 0) rfl)), F.bindsN (fun _ _ _ _ _ _ us hl => match us, hl with | [_], _ => rfl), s_is_integer, m_is_integer⟩
theorem o_is_fraction : DfOk K mg frs mts f_is_fraction := by
  obtain ⟨fd, F⟩ := c.all.2.2.2 (mkD "is_fraction" 11) (List.mem_of_getElem? (i := 1) rfl)
  exact ⟨_, _, _, _, _, fd, F, He.glo_ok X G (c.all.1 (.glo "is_fraction") (List.mem_of_getElem? (i := 1) rfl)), F.bindsN (fun _ _ _ _ _ _ us hl => match us, hl with | [_], _ => rfl), s_is_fraction, m_is_fraction⟩
theorem o_least_pair : DfOk K mg frs mts f_least_pair := by
  obtain ⟨fd, F⟩ := c.all.2.2.2 (mkD "least_pair" 12) (List.mem_of_getElem? (i := 2) rfl)
  exact ⟨_, _, _, _, _, fd, F, He.glo_ok X G (c.all.1 (.glo "least_pair") (List.mem_of_getElem? (i := 2) rfl)), F.bindsN (fun _ _ _ _ _ _ us hl => match us, hl with | [_, _], _ => rfl), s_least_pair, m_least_pair⟩
theorem o_plus : DfOk K mg frs mts f_plus := by
  obtain ⟨fd, F⟩ := c.all.2.2.2 (mkD "plus" 13) (List.mem_of_getElem? (i := 3) rfl)
  exact ⟨_, _, _, _, _, fd, F, He.glo_ok X G (c.all.1 (.glo "plus") (List.mem_of_getElem? (i := 3) rfl)), F.bindsN (fun _ _ _ _ _ _ us hl => match us, hl with | [_, _], _ => rfl), s_plus, m_plus⟩
theorem o_minus : DfOk K mg frs mts f_minus := by
  obtain ⟨fd, F⟩ := c.all.2.2.2 (mkD "minus" 14) (List.mem_of_getElem? (i := 4) rfl)
  exact ⟨_, _, _, _, _, fd, F, He.glo_ok X G (c.all.1 (.glo "minus") (List.mem_of_getElem? (i := 4) rfl)), F.bindsN (fun _ _ _ _ _ _ us hl => match us, hl with | [_, _], _ => rfl), s_minus, m_minus⟩
theorem o_times : DfOk K mg frs mts f_times := by
  obtain ⟨fd, F⟩ := c.all.2.2.2 (mkD "times" 15) (List.mem_of_getElem? (i := 5) rfl)
  exact ⟨_, _, _, _, _, fd, F, He.glo_ok X G (c.all.1 (.glo "times") (List.mem_of_getElem? (i := 5) rfl)), F.bindsN (fun _ _ _ _ _ _ us hl => match us, hl with | [_, _], _ => rfl), s_times, m_times⟩
theorem o_over : DfOk K mg frs mts f_over := by
  obtain ⟨fd, F⟩ := c.all.2.2.2 (mkD "over" 16) (List.mem_of_getElem? (i := 6) rfl)
  exact ⟨_, _, _, _, _, fd, F, He.glo_ok X G (c.all.1 (.glo "over") (List.mem_of_getElem? (i := 6) rfl)), F.bindsN (fun _ _ _ _ _ _ us hl => match us, hl with | [_, _], _ => rfl), s_over, m_over⟩
theorem o_power_of : DfOk K mg frs mts f_power_of := by
  obtain ⟨fd, F⟩ := c.all.2.2.2 (mkD "power_of" 17) (List.mem_of_getElem? (i := 7) rfl)
  exact ⟨_, _, _, _, _, fd, F, He.glo_ok X G (c.all.1 (.glo "power_of") (List.mem_of_getElem? (i := 7) rfl)), F.bindsN (fun _ _ _ _ _ _ us hl => match us, hl with | [_, _], _ => rfl), s_power_of, m_power_of⟩
theorem o_is_value : DfOk K mg frs mts f_is_value := by
  obtain ⟨fd, F⟩ := c.all.2.2.2 (mkD "is_value" 21) (List.mem_of_getElem? (i := 8) rfl)
  exact ⟨_, _, _, _, _, fd, F, He.glo_ok X G (c.all.1 (.glo "is_value") (List.mem_of_getElem? (i := 8) rfl)), F.bindsN (fun _ _ _ _ _ _ us hl => match us, hl with | [_], _ => rfl), s_is_value, m_is_value⟩
theorem o_is_row : DfOk K mg frs mts f_is_row := by
  obtain ⟨fd, F⟩ := c.all.2.2.2 (mkD "is_row" 22) (List.mem_of_getElem? (i := 9) rfl)
  exact ⟨_, _, _, _, _, fd, F, He.glo_ok X G (c.all.1 (.glo "is_row") (List.mem_of_getElem? (i := 9) rfl)), F.bindsN (fun _ _ _ _ _ _ us hl => match us, hl with | [_], _ => rfl), s_is_row, m_is_row⟩
theorem o_are_of_one_sort : DfOk K mg frs mts f_are_of_one_sort := by
  obtain ⟨fd, F⟩ := c.all.2.2.2 (mkD "are_of_one_sort" 23) (List.mem_of_getElem? (i := 10) rfl)
  exact ⟨_, _, _, _, _, fd, F, He.glo_ok X G (c.all.1 (.glo "are_of_one_sort") (List.mem_of_getElem? (i := 10) rfl)), F.bindsN (fun _ _ _ _ _ _ us hl => match us, hl with | [_], _ => rfl), s_are_of_one_sort, m_are_of_one_sort⟩
theorem o__is_weighed : DfOk K mg frs mts f__is_weighed := by
  obtain ⟨fd, F⟩ := c.all.2.2.2 (mkD "_is_weighed" 24) (List.mem_of_getElem? (i := 11) rfl)
  exact ⟨_, _, _, _, _, fd, F, He.glo_ok X G (c.all.1 (.glo "_is_weighed") (List.mem_of_getElem? (i := 11) rfl)), F.bindsN (fun _ _ _ _ _ _ us hl => match us, hl with | [_], _ => rfl), s__is_weighed, m__is_weighed⟩
theorem o_common_of : DfOk K mg frs mts f_common_of := by
  obtain ⟨fd, F⟩ := c.all.2.2.2 (mkD "common_of" 26) (List.mem_of_getElem? (i := 12) rfl)
  exact ⟨_, _, _, _, _, fd, F, He.glo_ok X G (c.all.1 (.glo "common_of") (List.mem_of_getElem? (i := 12) rfl)), F.bindsN (fun _ _ _ _ _ _ us hl => match us, hl with | [_], _ => rfl), s_common_of, m_common_of⟩
theorem o_spread_fault : DfOk K mg frs mts f_spread_fault := by
  obtain ⟨fd, F⟩ := c.all.2.2.2 (mkD "spread_fault" 25) (List.mem_of_getElem? (i := 13) rfl)
  exact ⟨_, _, _, _, _, fd, F, He.glo_ok X G (c.all.1 (.glo "spread_fault") (List.mem_of_getElem? (i := 13) rfl)), F.bindsN (fun _ _ _ _ _ _ us hl => match us, hl with | [_], _ => rfl), s_spread_fault, m_spread_fault⟩
theorem o_check_spread : DfOk K mg frs mts f_check_spread := by
  obtain ⟨fd, F⟩ := c.all.2.2.2 (mkD "check_spread" 27) (List.mem_of_getElem? (i := 14) rfl)
  exact ⟨_, _, _, _, _, fd, F, He.glo_ok X G (c.all.1 (.glo "check_spread") (List.mem_of_getElem? (i := 14) rfl)), F.bindsN (fun _ _ _ _ _ _ us hl => match us, hl with | [_], _ => rfl), s_check_spread, m_check_spread⟩
theorem o_spread_of_weights : DfOk K mg frs mts f_spread_of_weights := by
  obtain ⟨fd, F⟩ := c.all.2.2.2 (mkD "spread_of_weights" 28) (List.mem_of_getElem? (i := 15) rfl)
  exact ⟨_, _, _, _, _, fd, F, He.glo_ok X G (c.all.1 (.glo "spread_of_weights") (List.mem_of_getElem? (i := 15) rfl)), F.bindsN (fun _ _ _ _ _ _ us hl => match us, hl with | [_], _ => rfl), s_spread_of_weights, m_spread_of_weights⟩
theorem o_spread_by : DfOk K mg frs mts f_spread_by := by
  obtain ⟨fd, F⟩ := c.all.2.2.2 (mkD "spread_by" 29) (List.mem_of_getElem? (i := 16) rfl)
  exact ⟨_, _, _, _, _, fd, F, He.glo_ok X G (c.all.1 (.glo "spread_by") (List.mem_of_getElem? (i := 16) rfl)), F.bindsN (fun _ _ _ _ _ _ us hl => match us, hl with | [_], _ => rfl), s_spread_by, m_spread_by⟩
theorem o_are_pairs : DfOk K mg frs mts f_are_pairs := by
  obtain ⟨fd, F⟩ := c.all.2.2.2 (mkD "are_pairs" 30) (List.mem_of_getElem? (i := 17) rfl)
  exact ⟨_, _, _, _, _, fd, F, He.glo_ok X G (c.all.1 (.glo "are_pairs") (List.mem_of_getElem? (i := 17) rfl)), F.bindsN (fun _ _ _ _ _ _ us hl => match us, hl with | [_], _ => rfl), s_are_pairs, m_are_pairs⟩
theorem o_shares_of : DfOk K mg frs mts f_shares_of := by
  obtain ⟨fd, F⟩ := c.all.2.2.2 (mkD "shares_of" 31) (List.mem_of_getElem? (i := 18) rfl)
  exact ⟨_, _, _, _, _, fd, F, He.glo_ok X G (c.all.1 (.glo "shares_of") (List.mem_of_getElem? (i := 18) rfl)), F.bindsN (fun _ _ _ _ _ _ us hl => match us, hl with | [_], _ => rfl), s_shares_of, m_shares_of⟩
theorem o_chance_of : DfOk K mg frs mts f_chance_of := by
  obtain ⟨fd, F⟩ := c.all.2.2.2 (mkD "chance_of" 32) (List.mem_of_getElem? (i := 19) rfl)
  exact ⟨_, _, _, _, _, fd, F, He.glo_ok X G (c.all.1 (.glo "chance_of") (List.mem_of_getElem? (i := 19) rfl)), F.bindsN (fun _ _ _ _ _ _ us hl => match us, hl with | [_, _], _ => rfl), s_chance_of, m_chance_of⟩
theorem o__by_values : DfOk K mg frs mts f__by_values := by
  obtain ⟨fd, F⟩ := c.all.2.2.2 (mkD "_by_values" 33) (List.mem_of_getElem? (i := 20) rfl)
  exact ⟨_, _, _, _, _, fd, F, He.glo_ok X G (c.all.1 (.glo "_by_values") (List.mem_of_getElem? (i := 20) rfl)), F.bindsN (fun _ _ _ _ _ _ us hl => match us, hl with | [_, _], _ => rfl), s__by_values, m__by_values⟩
theorem o_mapped : DfOk K mg frs mts f_mapped := by
  obtain ⟨fd, F⟩ := c.all.2.2.2 (mkD "mapped" 34) (List.mem_of_getElem? (i := 21) rfl)
  exact ⟨_, _, _, _, _, fd, F, He.glo_ok X G (c.all.1 (.glo "mapped") (List.mem_of_getElem? (i := 21) rfl)), F.bindsN (fun _ _ _ _ _ _ us hl => match us, hl with | [_, _], _ => rfl), s_mapped, m_mapped⟩
theorem o_is_base : DfOk K mg frs mts f_is_base := by
  obtain ⟨fd, F⟩ := c.all.2.2.2 (mkD "is_base" 40) (List.mem_of_getElem? (i := 22) rfl)
  exact ⟨_, _, _, _, _, fd, F, He.glo_ok X G (c.all.1 (.glo "is_base") (List.mem_of_getElem? (i := 22) rfl)), F.bindsN (fun _ _ _ _ _ _ us hl => match us, hl with | [_], _ => rfl), s_is_base, m_is_base⟩
theorem o_is_score : DfOk K mg frs mts f_is_score := by
  obtain ⟨fd, F⟩ := c.all.2.2.2 (mkD "is_score" 41) (List.mem_of_getElem? (i := 23) rfl)
  exact ⟨_, _, _, _, _, fd, F, He.glo_ok X G (c.all.1 (.glo "is_score") (List.mem_of_getElem? (i := 23) rfl)), F.bindsN (fun _ _ _ _ _ _ us hl => match us, hl with | [_], _ => rfl), s_is_score, m_is_score⟩
theorem o_check_noise : DfOk K mg frs mts f_check_noise := by
  obtain ⟨fd, F⟩ := c.all.2.2.2 (mkD "check_noise" 42) (List.mem_of_getElem? (i := 24) rfl)
  exact ⟨_, _, _, _, _, fd, F, He.glo_ok X G (c.all.1 (.glo "check_noise") (List.mem_of_getElem? (i := 24) rfl)), F.bindsN (fun _ _ _ _ _ _ us hl => match us, hl with | [_], _ => rfl), s_check_noise, m_check_noise⟩
theorem o_chance_at : DfOk K mg frs mts f_chance_at := by
  obtain ⟨fd, F⟩ := c.all.2.2.2 (mkD "chance_at" 43) (List.mem_of_getElem? (i := 25) rfl)
  exact ⟨_, _, _, _, _, fd, F, He.glo_ok X G (c.all.1 (.glo "chance_at") (List.mem_of_getElem? (i := 25) rfl)), F.bindsN (fun _ _ _ _ _ _ us hl => match us, hl with | [_, _], _ => rfl), s_chance_at, m_chance_at⟩
theorem o_chance_from : DfOk K mg frs mts f_chance_from := by
  obtain ⟨fd, F⟩ := c.all.2.2.2 (mkD "chance_from" 44) (List.mem_of_getElem? (i := 26) rfl)
  exact ⟨_, _, _, _, _, fd, F, He.glo_ok X G (c.all.1 (.glo "chance_from") (List.mem_of_getElem? (i := 26) rfl)), F.bindsN (fun _ _ _ _ _ _ us hl => match us, hl with | [_, _], _ => rfl), s_chance_from, m_chance_from⟩
theorem o_chance_below : DfOk K mg frs mts f_chance_below := by
  obtain ⟨fd, F⟩ := c.all.2.2.2 (mkD "chance_below" 45) (List.mem_of_getElem? (i := 27) rfl)
  exact ⟨_, _, _, _, _, fd, F, He.glo_ok X G (c.all.1 (.glo "chance_below") (List.mem_of_getElem? (i := 27) rfl)), F.bindsN (fun _ _ _ _ _ _ us hl => match us, hl with | [_, _], _ => rfl), s_chance_below, m_chance_below⟩
theorem o_two_sided_by : DfOk K mg frs mts f_two_sided_by := by
  obtain ⟨fd, F⟩ := c.all.2.2.2 (mkD "two_sided_by" 46) (List.mem_of_getElem? (i := 28) rfl)
  exact ⟨_, _, _, _, _, fd, F, He.glo_ok X G (c.all.1 (.glo "two_sided_by") (List.mem_of_getElem? (i := 28) rfl)), F.bindsN (fun _ _ _ _ _ _ us hl => match us, hl with | [_, _, _, _], _ => rfl), s_two_sided_by, m_two_sided_by⟩
theorem o_two_sided : DfOk K mg frs mts f_two_sided := by
  obtain ⟨fd, F⟩ := c.all.2.2.2 (mkD "two_sided" 47) (List.mem_of_getElem? (i := 29) rfl)
  exact ⟨_, _, _, _, _, fd, F, He.glo_ok X G (c.all.1 (.glo "two_sided") (List.mem_of_getElem? (i := 29) rfl)), F.bindsN (fun _ _ _ _ _ _ us hl => match us, hl with | [_, _, _, _], _ => rfl), s_two_sided, m_two_sided⟩
theorem o_are_scores : DfOk K mg frs mts f_are_scores := by
  obtain ⟨fd, F⟩ := c.all.2.2.2 (mkD "are_scores" 48) (List.mem_of_getElem? (i := 30) rfl)
  exact ⟨_, _, _, _, _, fd, F, He.glo_ok X G (c.all.1 (.glo "are_scores") (List.mem_of_getElem? (i := 30) rfl)), F.bindsN (fun _ _ _ _ _ _ us hl => match us, hl with | [_, _], _ => rfl), s_are_scores, m_are_scores⟩
theorem o_choice_by : DfOk K mg frs mts f_choice_by := by
  obtain ⟨fd, F⟩ := c.all.2.2.2 (mkD "choice_by" 49) (List.mem_of_getElem? (i := 31) rfl)
  exact ⟨_, _, _, _, _, fd, F, He.glo_ok X G (c.all.1 (.glo "choice_by") (List.mem_of_getElem? (i := 31) rfl)), F.bindsN (fun _ _ _ _ _ _ us hl => match us, hl with | [_, _], _ => rfl), s_choice_by, m_choice_by⟩
theorem o_choice : DfOk K mg frs mts f_choice := by
  obtain ⟨fd, F⟩ := c.all.2.2.2 (mkD "choice" 50) (List.mem_of_getElem? (i := 32) rfl)
  exact ⟨_, _, _, _, _, fd, F, He.glo_ok X G (c.all.1 (.glo "choice") (List.mem_of_getElem? (i := 32) rfl)), F.bindsN (fun _ _ _ _ _ _ us hl => match us, hl with | [_, _], _ => rfl), s_choice, m_choice⟩
theorem o__law_draws : DfOk K mg frs mts f__law_draws := by
  obtain ⟨fd, F⟩ := c.all.2.2.2 (mkD "_law_draws" 52) (List.mem_of_getElem? (i := 33) rfl)
  exact ⟨_, _, _, _, _, fd, F, He.glo_ok X G (c.all.1 (.glo "_law_draws") (List.mem_of_getElem? (i := 33) rfl)), F.bindsN (fun _ _ _ _ _ _ us hl => match us, hl with | [_, _], _ => rfl), s__law_draws, m__law_draws⟩
theorem o__law_common : DfOk K mg frs mts f__law_common := by
  obtain ⟨fd, F⟩ := c.all.2.2.2 (mkD "_law_common" 53) (List.mem_of_getElem? (i := 34) rfl)
  exact ⟨_, _, _, _, _, fd, F, He.glo_ok X G (c.all.1 (.glo "_law_common") (List.mem_of_getElem? (i := 34) rfl)), F.bindsN (fun _ _ _ _ _ _ us hl => match us, hl with | [_, _], _ => rfl), s__law_common, m__law_common⟩
theorem o__law_lowest : DfOk K mg frs mts f__law_lowest := by
  obtain ⟨fd, F⟩ := c.all.2.2.2 (mkD "_law_lowest" 54) (List.mem_of_getElem? (i := 35) rfl)
  exact ⟨_, _, _, _, _, fd, F, He.glo_ok X G (c.all.1 (.glo "_law_lowest") (List.mem_of_getElem? (i := 35) rfl)), F.bindsN (fun _ _ _ _ _ _ us hl => match us, hl with | [_, _], _ => rfl), s__law_lowest, m__law_lowest⟩
theorem o__law_times : DfOk K mg frs mts f__law_times := by
  obtain ⟨fd, F⟩ := c.all.2.2.2 (mkD "_law_times" 55) (List.mem_of_getElem? (i := 36) rfl)
  exact ⟨_, _, _, _, _, fd, F, He.glo_ok X G (c.all.1 (.glo "_law_times") (List.mem_of_getElem? (i := 36) rfl)), F.bindsN (fun _ _ _ _ _ _ us hl => match us, hl with | [_, _], _ => rfl), s__law_times, m__law_times⟩
theorem o__law_plus : DfOk K mg frs mts f__law_plus := by
  obtain ⟨fd, F⟩ := c.all.2.2.2 (mkD "_law_plus" 56) (List.mem_of_getElem? (i := 37) rfl)
  exact ⟨_, _, _, _, _, fd, F, He.glo_ok X G (c.all.1 (.glo "_law_plus") (List.mem_of_getElem? (i := 37) rfl)), F.bindsN (fun _ _ _ _ _ _ us hl => match us, hl with | [_, _], _ => rfl), s__law_plus, m__law_plus⟩
theorem o__law_minus : DfOk K mg frs mts f__law_minus := by
  obtain ⟨fd, F⟩ := c.all.2.2.2 (mkD "_law_minus" 57) (List.mem_of_getElem? (i := 38) rfl)
  exact ⟨_, _, _, _, _, fd, F, He.glo_ok X G (c.all.1 (.glo "_law_minus") (List.mem_of_getElem? (i := 38) rfl)), F.bindsN (fun _ _ _ _ _ _ us hl => match us, hl with | [_, _], _ => rfl), s__law_minus, m__law_minus⟩
theorem o__law_is_above : DfOk K mg frs mts f__law_is_above := by
  obtain ⟨fd, F⟩ := c.all.2.2.2 (mkD "_law_is_above" 58) (List.mem_of_getElem? (i := 39) rfl)
  exact ⟨_, _, _, _, _, fd, F, He.glo_ok X G (c.all.1 (.glo "_law_is_above") (List.mem_of_getElem? (i := 39) rfl)), F.bindsN (fun _ _ _ _ _ _ us hl => match us, hl with | [_, _], _ => rfl), s__law_is_above, m__law_is_above⟩
theorem o__law_made : DfOk K mg frs mts f__law_made := by
  obtain ⟨fd, F⟩ := c.all.2.2.2 (mkD "_law_made" 59) (List.mem_of_getElem? (i := 40) rfl)
  exact ⟨_, _, _, _, _, fd, F, He.glo_ok X G (c.all.1 (.glo "_law_made") (List.mem_of_getElem? (i := 40) rfl)), F.bindsN (fun _ _ _ _ _ _ us hl => match us, hl with | [_], _ => rfl), s__law_made, m__law_made⟩
theorem o__law_spread : DfOk K mg frs mts f__law_spread := by
  obtain ⟨fd, F⟩ := c.all.2.2.2 (mkD "_law_spread" 60) (List.mem_of_getElem? (i := 41) rfl)
  exact ⟨_, _, _, _, _, fd, F, He.glo_ok X G (c.all.1 (.glo "_law_spread") (List.mem_of_getElem? (i := 41) rfl)), F.bindsN (fun _ _ _ _ _ _ us hl => match us, hl with | [_, _], _ => rfl), s__law_spread, m__law_spread⟩
theorem o__law_full : DfOk K mg frs mts f__law_full := by
  obtain ⟨fd, F⟩ := c.all.2.2.2 (mkD "_law_full" 61) (List.mem_of_getElem? (i := 42) rfl)
  exact ⟨_, _, _, _, _, fd, F, He.glo_ok X G (c.all.1 (.glo "_law_full") (List.mem_of_getElem? (i := 42) rfl)), F.bindsN (fun _ _ _ _ _ _ us hl => match us, hl with | [_, _], _ => rfl), s__law_full, m__law_full⟩
theorem o__law_power : DfOk K mg frs mts f__law_power := by
  obtain ⟨fd, F⟩ := c.all.2.2.2 (mkD "_law_power" 62) (List.mem_of_getElem? (i := 43) rfl)
  exact ⟨_, _, _, _, _, fd, F, He.glo_ok X G (c.all.1 (.glo "_law_power") (List.mem_of_getElem? (i := 43) rfl)), F.bindsN (fun _ _ _ _ _ _ us hl => match us, hl with | [_, _], _ => rfl), s__law_power, m__law_power⟩
theorem o_law : DfOk K mg frs mts f_law := by
  obtain ⟨fd, F⟩ := c.all.2.2.2 (mkD "law" 63) (List.mem_of_getElem? (i := 44) rfl)
  exact ⟨_, _, _, _, _, fd, F, He.glo_ok X G (c.all.1 (.glo "law") (List.mem_of_getElem? (i := 44) rfl)), F.bindsN (fun _ _ _ _ _ _ us hl => match us, hl with | [_], _ => rfl), s_law, m_law⟩
theorem dfs_all : ∀ d ∈ dfs, DfOk K mg frs mts d := List.forall_mem_cons.mpr ⟨o_law X G c, List.forall_mem_cons.mpr ⟨o__law_power X G c, List.forall_mem_cons.mpr ⟨o__law_full X G c, List.forall_mem_cons.mpr ⟨o__law_spread X G c, List.forall_mem_cons.mpr ⟨o__law_made X G c, List.forall_mem_cons.mpr ⟨o__law_is_above X G c, List.forall_mem_cons.mpr ⟨o__law_minus X G c, List.forall_mem_cons.mpr ⟨o__law_plus X G c, List.forall_mem_cons.mpr ⟨o__law_times X G c, List.forall_mem_cons.mpr ⟨o__law_lowest X G c, List.forall_mem_cons.mpr ⟨o__law_common X G c, List.forall_mem_cons.mpr ⟨o__law_draws X G c, List.forall_mem_cons.mpr ⟨o_choice X G c, List.forall_mem_cons.mpr ⟨o_choice_by X G c, List.forall_mem_cons.mpr ⟨o_are_scores X G c, List.forall_mem_cons.mpr ⟨o_two_sided X G c, List.forall_mem_cons.mpr ⟨o_two_sided_by X G c, List.forall_mem_cons.mpr ⟨o_chance_below X G c, List.forall_mem_cons.mpr ⟨o_chance_from X G c, List.forall_mem_cons.mpr ⟨o_chance_at X G c, List.forall_mem_cons.mpr ⟨o_check_noise X G c, List.forall_mem_cons.mpr ⟨o_is_score X G c, List.forall_mem_cons.mpr ⟨o_is_base X G c, List.forall_mem_cons.mpr ⟨o_mapped X G c, List.forall_mem_cons.mpr ⟨o__by_values X G c, List.forall_mem_cons.mpr ⟨o_chance_of X G c, List.forall_mem_cons.mpr ⟨o_shares_of X G c, List.forall_mem_cons.mpr ⟨o_are_pairs X G c, List.forall_mem_cons.mpr ⟨o_spread_by X G c, List.forall_mem_cons.mpr ⟨o_spread_of_weights X G c, List.forall_mem_cons.mpr ⟨o_check_spread X G c, List.forall_mem_cons.mpr ⟨o_spread_fault X G c, List.forall_mem_cons.mpr ⟨o_common_of X G c, List.forall_mem_cons.mpr ⟨o__is_weighed X G c, List.forall_mem_cons.mpr ⟨o_are_of_one_sort X G c, List.forall_mem_cons.mpr ⟨o_is_row X G c, List.forall_mem_cons.mpr ⟨o_is_value X G c, List.forall_mem_cons.mpr ⟨o_power_of X G c, List.forall_mem_cons.mpr ⟨o_over X G c, List.forall_mem_cons.mpr ⟨o_times X G c, List.forall_mem_cons.mpr ⟨o_minus X G c, List.forall_mem_cons.mpr ⟨o_plus X G c, List.forall_mem_cons.mpr ⟨o_least_pair X G c, List.forall_mem_cons.mpr ⟨o_is_fraction X G c, List.forall_mem_cons.mpr ⟨o_is_integer X G c, fun _ h => by cases h⟩⟩⟩⟩⟩⟩⟩⟩⟩⟩⟩⟩⟩⟩⟩⟩⟩⟩⟩⟩⟩⟩⟩⟩⟩⟩⟩⟩⟩⟩⟩⟩⟩⟩⟩⟩⟩⟩⟩⟩⟩⟩⟩⟩⟩
end
def names0 : List PySem.Str := ["is_integer", "is_fraction", "least_pair", "plus", "minus", "times", "over", "power_of", "is_value", "is_row", "are_of_one_sort", "_is_weighed", "common_of", "spread_fault", "check_spread", "spread_of_weights", "spread_by", "are_pairs", "shares_of", "chance_of", "_by_values", "mapped", "is_base", "is_score", "check_noise", "chance_at", "chance_from", "chance_below", "two_sided_by", "two_sided"]
def names1 : List PySem.Str := ["are_scores", "choice_by", "choice", "_law_draws", "_law_common", "_law_lowest", "_law_times", "_law_plus", "_law_minus", "_law_is_above", "_law_made", "_law_spread", "_law_full", "_law_power", "HideError", "BadSpread", "BadPairs", "BadNoise", "TooMany", "NOUGHT", "ONE", "MOST_VALUES", "FORM", "MOST_SCORE", "MOST_WIDE", "MOST_BELOW", "MOST_ANSWERS"]
def names : List PySem.Str := names0 ++ names1
abbrev R : PySem.W.OpenRow := PySem.W.OpenLaw.row PySem.Challenge.rw_rowhidden_k22_main_noise_moved_and_mirro
abbrev hk : PySem.W.Hook := hookP 4 fa cns mts fn
def ob (s : PySem.W.SharedT) : He.AlD := obsPG 4 fa cns mts fn (HandSHeadRun.getT s)
theorem ob_eq (s : PySem.W.SharedT) : ob s = hk.obs s.abs := obsPG_eq (HandSHeadRun.getT_eq s)
theorem hrun (w : World) : HandSHeadRun.RunEqI R (PySem.W.view R.prog [0, 63]) hk ob 8000 names w := by
  unfold HandSHeadRun.RunEqI
  kernel_rfl
theorem facts {P : Program} {w : World} {K : PySem.W.Frag} {h : Heap} {mg : Str → Option Value} {f : Addr} (X : K.In h) (G : h.Ns mainGlobals mg) (hfa : mg ("law" : Str) = some (.ref f)) (c : SaysP fa cns mts fn K) :
    ∃ fd : FuncData, (∀ (s : Shared) (u : Value), BindsTo s fd ⟨[u], []⟩ [("script", u)]) ∧ ∀ base : Heap, K.In base → base.Ns mainGlobals mg → FnOk P w K mg base CX0 45 f fd ["script"] (spP ⟨P, w, ctC K cns⟩ K 1 (run ⟨fnsOf (cstOf cns) (tupsOf cns) (dfs.drop 1), cstOf cns, tupsOf cns⟩ f_law.ps.length f_law.N.length f_law.body)) := by
  obtain ⟨fd, F⟩ := c.all.2.2.2 (mkD "law" 63) (List.mem_of_getElem? (i := 44) rfl)
  have e := hfa.symm.trans (He.glo_ok X G (c.all.1 (.glo "law") (List.mem_of_getElem? (i := 44) rfl)))
  cases e
  have b := FunD.bindsA (ps := ["script"]) F fun _ _ _ _ _ _ us hl => match us, hl with | [_], _ => rfl
  have M := md_ok (P := P) (w := w) (fr := frs) X G c (fun x => mem_fr X G c)
  exact ⟨fd, fun s u => b s [u] rfl, fun base _ _ => df_ok M (dfs_ok M (dfs.drop 1) fun d hd => dfs_all X G c d (List.mem_of_mem_drop hd)) F s_law m_law⟩
end K22
section
open PySem PySem.W PySem.Calls PyProof.Rows
theorem K22.holds (math : ∀ ns : List Int, ns.length ≤ 63 → (∀ z ∈ ns, Builtin.Int.intBits z ≤ 1048576) → PL.run ⟨PL.fnsOf (PL.cstOf K22.cns) (PL.tupsOf K22.cns) (K22.dfs.drop 1), PL.cstOf K22.cns, PL.tupsOf K22.cns⟩ K22.f_law.ps.length K22.f_law.N.length K22.f_law.body [.list (ns.map PyData.int)] = some (.bool true)) : PySem.Challenge.rw_rowhidden_k22_main_noise_moved_and_mirro.Holds := by
  w_on; o_law
  refine HandSHeadRun.head_imp (r := OpenLaw.row PySem.Challenge.rw_rowhidden_k22_main_noise_moved_and_mirro) (q := view (OpenLaw.row PySem.Challenge.rw_rowhidden_k22_main_noise_moved_and_mirro).prog [0, 63]) (H := K22.hk) (ob := K22.ob) (M := 8000) (loose := K22.names) (d := HandSHeadRun.topDef (OpenLaw.row PySem.Challenge.rw_rowhidden_k22_main_noise_moved_and_mirro).prog 63) (kwd := []) K22.ob_eq K22.hrun (by kernel_rfl) (by kernel_rfl) (by kernel_rfl) (by rfl) (by first | assumption | decide +kernel) (by decide +kernel) ⟨rfl, rfl, rfl, rfl, rfl, by decide +kernel⟩ ?hw ?hc
  case hw => w_witness2
  case hc =>
    refine PL.walk_PL (l := PySem.Challenge.rw_rowhidden_k22_main_noise_moved_and_mirro) (n := 63) (k := 45) (x := "script") rfl (by decide) (by kernel_rfl) ⟨rfl, by decide, by decide⟩ ?F
    intro w mg fa h Y G hmg0
    obtain ⟨K, KX, c⟩ := Y
    have hmg : mg ("law" : PySem.Str) = some (.ref fa) := by
      have e : (HandSHeadRun.topDef (OpenLaw.row PySem.Challenge.rw_rowhidden_k22_main_noise_moved_and_mirro).prog 63).name = ("law" : PySem.Str) := by kernel_rfl
      rw [← e]
      exact hmg0
    obtain ⟨fd, hb, hF⟩ := K22.facts (P := (PySem.Challenge.rw_rowhidden_k22_main_noise_moved_and_mirro).prog) (w := w) KX G hmg c
    exact ⟨K, fd, _, _, KX, hb, hF, math⟩
end


set_option Elab.async false
set_option linter.all false
set_option maxRecDepth 100000
/-! MA: what the small defs over fractions compute. -/
namespace PL
open PySem
/-- a fraction as the program has it -/
def fr (r : Rat) : D := .tuple [.int r.num, .int (r.den : Int)]
/-- numerator and denominator have at most n bits -/
def Sz (n : Nat) (r : Rat) : Prop := r.num.natAbs < 2 ^ n ∧ r.den < 2 ^ n
theorem Sz.mono {n m : Nat} {r : Rat} (h : Sz n r) (k : n ≤ m) : Sz m r := ⟨Nat.lt_of_lt_of_le h.1 (Nat.pow_le_pow_right (by decide) k), Nat.lt_of_lt_of_le h.2 (Nat.pow_le_pow_right (by decide) k)⟩
theorem log_lt {a n : Nat} (h : a < 2 ^ n) (hn : 0 < n) : a.log2 < n := by
  by_cases h0 : a = 0
  · subst h0; simpa using hn
  · exact (Nat.log2_lt h0).mpr h
theorem log_lt' {a : Int} {n : Nat} (h : a.natAbs < 2 ^ n) (hn : 0 < n) : a.natAbs.log2 < n := log_lt h hn
theorem fr_div (a : Int) (b : Nat) (hb : 0 < b) : fr (mkRat a b) = .tuple [.int (a / (Nat.gcd a.natAbs b : Nat)), .int ((b : Int) / (Nat.gcd a.natAbs b : Nat))] := by
  have h0 : b ≠ 0 := by omega
  unfold fr
  rw [Rat.mkRat_def, dif_neg h0, Rat.normalize_eq]
  simp
theorem mkRat_sz {a : Int} {b n : Nat} (ha : a.natAbs < 2 ^ n) (hb : b < 2 ^ n) (h0 : 0 < n) : Sz n (mkRat a b) := by
  by_cases hb0 : b = 0
  · subst hb0
    simp only [Rat.mkRat_zero]
    exact ⟨by show 0 < 2 ^ n; exact Nat.two_pow_pos n, by show 1 < 2 ^ n; exact Nat.one_lt_two_pow (by omega)⟩
  · rw [Rat.mkRat_def, dif_neg hb0, Rat.normalize_eq]
    refine ⟨?_, ?_⟩
    · show (a / _ : Int).natAbs < 2 ^ n
      refine Nat.lt_of_le_of_lt ?_ ha
      exact Int.natAbs_ediv_le_natAbs a _
    · show b / _ < 2 ^ n
      exact Nat.lt_of_le_of_lt (Nat.div_le_self _ _) hb
theorem natAbs_add_lt {a b : Int} {n : Nat} (ha : a.natAbs < 2 ^ n) (hb : b.natAbs < 2 ^ n) : (a + b).natAbs < 2 ^ (n + 1) := by
  have := Int.natAbs_add_le a b
  rw [Nat.pow_succ]
  omega
theorem natAbs_mul_lt {a b : Int} {n m : Nat} (ha : a.natAbs < 2 ^ n) (hb : b.natAbs < 2 ^ m) : (a * b).natAbs < 2 ^ (n + m) := by
  rw [Int.natAbs_mul, Nat.pow_add]
  exact Nat.mul_lt_mul'' ha hb
theorem Sz.add {n m : Nat} {r s : Rat} (hr : Sz n r) (hs : Sz m s) : Sz (n + m + 1) (r + s) := by
  rw [Rat.add_def']
  refine mkRat_sz ?_ ?_ (by omega)
  · have h1 : (r.num * (s.den : Int)).natAbs < 2 ^ (n + m) := natAbs_mul_lt hr.1 (by simpa using hs.2)
    have h2 : (s.num * (r.den : Int)).natAbs < 2 ^ (n + m) := by rw [Nat.add_comm]; exact natAbs_mul_lt hs.1 (by simpa using hr.2)
    exact natAbs_add_lt h1 h2
  · rw [Nat.pow_succ, Nat.pow_add]
    have := Nat.mul_lt_mul'' hr.2 hs.2
    omega
theorem Sz.sub {n m : Nat} {r s : Rat} (hr : Sz n r) (hs : Sz m s) : Sz (n + m + 1) (r - s) := by
  rw [Rat.sub_def']
  refine mkRat_sz ?_ ?_ (by omega)
  · have h1 : (r.num * (s.den : Int)).natAbs < 2 ^ (n + m) := natAbs_mul_lt hr.1 (by simpa using hs.2)
    have h2 : (-(s.num * (r.den : Int))).natAbs < 2 ^ (n + m) := by rw [Int.natAbs_neg, Nat.add_comm]; exact natAbs_mul_lt hs.1 (by simpa using hr.2)
    rw [Int.sub_eq_add_neg]
    exact natAbs_add_lt h1 h2
  · rw [Nat.pow_succ, Nat.pow_add]
    have := Nat.mul_lt_mul'' hr.2 hs.2
    omega
theorem Sz.mul {n m : Nat} {r s : Rat} (hr : Sz n r) (hs : Sz m s) (h0 : 0 < n) : Sz (n + m) (r * s) := by
  rw [Rat.mul_def']
  refine mkRat_sz (natAbs_mul_lt hr.1 hs.1) ?_ (by omega)
  rw [Nat.pow_add]
  exact Nat.mul_lt_mul'' hr.2 hs.2
/-- least_pair of a, b > 0 -/
theorem least_pair_ok (G : Gb) (a : Int) (b : Nat) (hb : 0 < b) (h1 : b < 2 ^ 9000) : run G 2 3 K22.b_least_pair [.int a, .int b] = some (fr (mkRat a b)) := by
  rw [fr_div a b hb]
  have hgp : 0 < Nat.gcd a.natAbs b := Nat.gcd_pos_of_pos_right _ hb
  have hg : 0 < ((Nat.gcd a.natAbs b : Nat) : Int) := by omega
  have hle : Nat.gcd a.natAbs b ≤ b := Nat.gcd_le_right _ hb
  have hs : (Nat.gcd a.natAbs b).log2 < 9000 := log_lt (Nat.lt_of_le_of_lt hle h1) (by decide)
  have hn : ¬ ((b : Int) < 0) := by omega
  have hc : 0 < ((Nat.gcd a.natAbs b : Nat) : Int) ∧ (((Nat.gcd a.natAbs b : Nat) : Int)).natAbs.log2 < 9000 := ⟨hg, by simpa using hs⟩
  have e1 : opD .fdiv (.int a) (.int (Nat.gcd a.natAbs b : Nat)) = some (.int (a / (Nat.gcd a.natAbs b : Nat))) := if_pos hc
  have e2 : opD .fdiv (.int (b : Int)) (.int (Nat.gcd a.natAbs b : Nat)) = some (.int ((b : Int) / (Nat.gcd a.natAbs b : Nat))) := if_pos hc
  simp [run, K22.b_least_pair, evSs, evS, ev, evs, biD, cmpD, ltD, bindP, En.get, asB, hn, e1, e2]
end PL


set_option Elab.async false
set_option linter.all false
set_option maxRecDepth 100000
set_option exponentiation.threshold 20000
/-! MB: plus, minus, times, is_less, greater_of, sum_up. -/
namespace PL
open PySem
/-- a call's value -/
def Kn (G : Gb) (f : Str) (as : List D) (r : D) : Prop := ∃ F, G.fns f = some F ∧ F as = some r
theorem ev_call {G : Gb} {f : Str} {as : Exs} {ρ : En} {ds : List D} {r : D} (h : evs G as ρ = some ds) (k : Kn G f ds r) : ev G (.call f as) ρ = some r := by
  obtain ⟨F, h1, h2⟩ := k
  simp only [ev, h1, h, Option.bind_some, h2]
theorem mul_ok {a b : Int} {n m : Nat} (ha : a.natAbs < 2 ^ n) (hb : b.natAbs < 2 ^ m) (h : n + m < 1000000) (hn : 0 < n) (hm : 0 < m) : opD .mul (.int a) (.int b) = some (.int (a * b)) := by
  have h1 := log_lt ha hn
  have h2 := log_lt hb hm
  exact if_pos (by omega)
/-- numbers that may be multiplied and divided at ease -/
abbrev Sm (r : Rat) : Prop := Sz 4000 r
theorem Sm.num {r : Rat} (h : Sm r) : r.num.natAbs < 2 ^ 4000 := h.1
theorem Sm.den {r : Rat} (h : Sm r) : ((r.den : Int)).natAbs < 2 ^ 4000 := by simpa using h.2
theorem lp_den {r s : Rat} (hr : Sm r) (hs : Sm s) : 0 < r.den * s.den ∧ r.den * s.den < 2 ^ 9000 := by
  refine ⟨Nat.mul_pos r.den_pos s.den_pos, Nat.lt_of_lt_of_le (Nat.mul_lt_mul'' hr.2 hs.2) ?_⟩
  rw [← Nat.pow_add]
  exact Nat.pow_le_pow_right (by decide) (by decide)
abbrev LpOk (G : Gb) : Prop := ∀ (a : Int) (b : Nat), 0 < b → b < 2 ^ 9000 → Kn G "least_pair" [.int a, .int (b : Int)] (fr (mkRat a b))
theorem fr0 {T : List D} (r : Rat) : ixD T (fr r) (.int 0) = some (.int r.num) := rfl
theorem fr1 {T : List D} (r : Rat) : ixD T (fr r) (.int 1) = some (.int (r.den : Int)) := rfl
theorem add_i (a b : Int) : opD .add (.int a) (.int b) = some (.int (a + b)) := rfl
theorem sub_i (a b : Int) : opD .sub (.int a) (.int b) = some (.int (a - b)) := rfl
section
variable {G : Gb} {r s : Rat}
theorem plus_ok (L : LpOk G) (hr : Sm r) (hs : Sm s) : run G 2 2 K22.b_plus [fr r, fr s] = some (fr (r + s)) := by
  have m1 := mul_ok hr.num hs.den (by decide) (by decide) (by decide)
  have m2 := mul_ok hs.num hr.den (by decide) (by decide) (by decide)
  have m3 := mul_ok hr.den hs.den (by decide) (by decide) (by decide)
  obtain ⟨d0, d1⟩ := lp_den hr hs
  obtain ⟨F, k1, k2⟩ := L (r.num * (s.den : Int) + s.num * (r.den : Int)) (r.den * s.den) d0 d1
  rw [Int.natCast_mul] at k2
  rw [Rat.add_def']
  simp [run, K22.b_plus, evSs, evS, ev, evs, fr0, fr1, En.get, m1, m2, m3, k1, k2, add_i, sub_i]
theorem minus_ok (L : LpOk G) (hr : Sm r) (hs : Sm s) : run G 2 2 K22.b_minus [fr r, fr s] = some (fr (r - s)) := by
  have m1 := mul_ok hr.num hs.den (by decide) (by decide) (by decide)
  have m2 := mul_ok hs.num hr.den (by decide) (by decide) (by decide)
  have m3 := mul_ok hr.den hs.den (by decide) (by decide) (by decide)
  obtain ⟨d0, d1⟩ := lp_den hr hs
  obtain ⟨F, k1, k2⟩ := L (r.num * (s.den : Int) - s.num * (r.den : Int)) (r.den * s.den) d0 d1
  rw [Int.natCast_mul] at k2
  rw [Rat.sub_def']
  simp [run, K22.b_minus, evSs, evS, ev, evs, fr0, fr1, En.get, m1, m2, m3, k1, k2, add_i, sub_i]
theorem times_ok (L : LpOk G) (hr : Sm r) (hs : Sm s) : run G 2 2 K22.b_times [fr r, fr s] = some (fr (r * s)) := by
  have m1 := mul_ok hr.num hs.num (by decide) (by decide) (by decide)
  have m3 := mul_ok hr.den hs.den (by decide) (by decide) (by decide)
  obtain ⟨d0, d1⟩ := lp_den hr hs
  obtain ⟨F, k1, k2⟩ := L (r.num * s.num) (r.den * s.den) d0 d1
  rw [Int.natCast_mul] at k2
  rw [Rat.mul_def']
  simp [run, K22.b_times, evSs, evS, ev, evs, fr0, fr1, En.get, m1, m3, k1, k2]
end
end PL


set_option Elab.async false
set_option linter.all false
set_option maxRecDepth 100000
set_option exponentiation.threshold 20000
/-! MC: loops; sum_up, common_of; what is a number, a fraction, a value. -/
namespace PL
open PySem
theorem forL_run {α β : Type} {step : D → En → Option Out} {g : β → D} (env : α → En) (R : List β → α → Prop) (f : α → β → α) (h : ∀ b bs s, R (b :: bs) s → step (g b) (env s) = some (.nx (env (f s b))) ∧ R bs (f s b)) : ∀ (bs : List β) (s : α), R bs s → forL step (bs.map g) (env s) = some (.nx (env (bs.foldl f s)))
  | [], s, _ => rfl
  | b :: bs, s, r => by
    obtain ⟨h1, h2⟩ := h b bs s r
    rw [List.map_cons, forL_cons, h1, Option.bind_some]
    exact forL_run env R f h bs (f s b) h2
theorem compL_map {β γ : Type} {f : D → Option (Option D)} {g : β → D} {k : γ → D} {u : β → Option γ} (h : ∀ b, f (g b) = some ((u b).map k)) : ∀ bs : List β, compL f (bs.map g) = some ((bs.filterMap u).map k)
  | [] => rfl
  | b :: bs => by
    simp only [List.map_cons, compL, h, Option.bind_some, List.filterMap_cons]
    rw [compL_map h bs]
    cases u b <;> rfl
/-- all comprehended items of a list whose items are told -/
theorem compL_all {β : Type} {f : D → Option (Option D)} {g : β → D} {k : β → D} : ∀ bs : List β, (∀ b ∈ bs, f (g b) = some (some (k b))) → compL f (bs.map g) = some (bs.map k)
  | [], _ => rfl
  | b :: bs, h => by
    simp only [List.map_cons, compL, h b List.mem_cons_self, Option.bind_some]
    rw [compL_all bs fun c hc => h c (List.mem_cons_of_mem _ hc)]
    rfl
theorem allInts_map : ∀ l : List Int, allInts (l.map PyData.int) = some l
  | [] => rfl
  | a :: r => by simp only [List.map_cons, allInts, allInts_map r, Option.map_some]
theorem allBools_map : ∀ l : List Bool, allBools (l.map PyData.bool) = some l
  | [] => rfl
  | a :: r => by simp only [List.map_cons, allBools, allBools_map r, Option.map_some]
section
variable {G : Gb}
theorem evSs_nx {s : St} {ss : Ss} {ρ ρ' : En} (h : evS G s ρ = some (.nx ρ')) : evSs G (.cons s ss) ρ = evSs G ss ρ' := by simp only [evSs, h, Option.bind_some]
theorem evSs_rt {s : St} {ss : Ss} {ρ : En} {d : D} (h : evS G s ρ = some (.rt d)) : evSs G (.cons s ss) ρ = some (.rt d) := by simp only [evSs, h, Option.bind_some]
theorem evS_for {p : Pat} {it : Iu} {body : Ss} {ρ : En} {ds : List D} {o : Out} (h : evI G it ρ = some ds) (k : forL (fun d ρ1 => (bindP p d ρ1).bind fun ρ2 => evSs G body ρ2) ds ρ = some o) : evS G (.for_ p it body) ρ = some o := by simp only [evS, h, Option.bind_some, k]
/-- a def's value by its body's end -/
theorem run_of {np nN : Nat} {b : Ss} {as : List D} {ρ : En} {d : D} (hl : as.length = np) (e : as.map Sl.fz ++ List.replicate (nN - np) Sl.un = ρ) (h : evSs G b ρ = some (.rt d)) : run G np nN b as = some d := by
  unfold run
  rw [if_pos hl, e, h]
  rfl
theorem is_integer_int (z : Int) : run G 1 1 K22.b_is_integer [.int z] = some (.bool true) := rfl
theorem is_integer_tup (ds : List D) : run G 1 1 K22.b_is_integer [.tuple ds] = some (.bool false) := rfl
theorem is_row_int (z : Int) : run G 1 1 K22.b_is_row [.int z] = some (.bool false) := rfl
theorem is_row_tup (ds : List D) : run G 1 1 K22.b_is_row [.tuple ds] = some (.bool true) := rfl
theorem is_value_int (h : ∀ z, Kn G "is_integer" [.int z] (.bool true)) (z : Int) : run G 1 2 K22.b_is_value [.int z] = some (.bool true) := by
  obtain ⟨F, h1, h2⟩ := h z
  simp [run, K22.b_is_value, evSs, evS, ev, evs, En.get, h1, h2, asB]
theorem common_of_ok (l : List Int) : run G 1 3 K22.b_common_of [.list (l.map PyData.int)] = some (.int (l.foldl (fun (a : Nat) z => Nat.gcd a z.natAbs) 0 : Nat)) := by
  have key : forL (fun d ρ1 => (bindP (.v 2) d ρ1).bind fun ρ2 => evSs G (.cons (.asg (.v 1) (.bi .gcd (.cons (.v 1) (.cons (.v 2) .nil)))) .nil) ρ2) (l.map PyData.int) [.fz (.list (l.map PyData.int)), .fz (.int ((0 : Nat) : Int)), .un] = some (.nx ((fun s : Nat × Sl => ([.fz (.list (l.map PyData.int)), .fz (.int (s.1 : Int)), s.2] : En)) (l.foldl (fun s z => (Nat.gcd s.1 z.natAbs, Sl.fz (.int z))) (0, .un)))) := by
    refine forL_run (fun s : Nat × Sl => ([.fz (.list (l.map PyData.int)), .fz (.int (s.1 : Int)), s.2] : En)) (fun _ _ => True) (fun s z => (Nat.gcd s.1 z.natAbs, Sl.fz (.int z))) (fun z zs s _ => ⟨?_, trivial⟩) l (0, .un) trivial
    simp [bindP, evSs, evS, ev, evs, En.get, biD]
  have e : ∀ (l : List Int) (a : Nat) (sl : Sl), (l.foldl (fun (s : Nat × Sl) z => (Nat.gcd s.1 z.natAbs, Sl.fz (.int z))) (a, sl)).1 = l.foldl (fun (a : Nat) z => Nat.gcd a z.natAbs) a := by
    intro l
    induction l with
    | nil => intro a sl; rfl
    | cons z r ih => intro a sl; exact ih _ _
  refine run_of (ρ := [.fz (.list (l.map PyData.int)), .un, .un]) rfl rfl ?_
  unfold K22.b_common_of
  rw [evSs_nx (ρ' := [.fz (.list (l.map PyData.int)), .fz (.int ((0 : Nat) : Int)), .un]) rfl, evSs_nx (evS_for (ds := l.map PyData.int) rfl key)]
  simp [evSs, evS, ev, En.get, e]
end
end PL


set_option Elab.async false
set_option linter.all false
set_option maxRecDepth 100000
set_option exponentiation.threshold 20000
/-! MD: dicts with whole numbers as keys. -/
namespace PL
open PySem
/-- an entry with a number as its key -/
def kd (q : Int × D) : D × D := (.int q.1, q.2)
variable {T : List D}
theorem kdAll_ints (k : Int) : ∀ acc : List (Int × D), kdAll T (.k (.inl k)) (acc.map kd) = true
  | [] => rfl
  | q :: r => by
    simp only [List.map_cons, kdAll, kd, kdOf, Kd.same, Bool.true_and]
    exact kdAll_ints k r
theorem any_ints (k : Int) : ∀ acc : List (Int × D), ((acc.map kd).any fun p => decide (kdOf T p.1 = some (.k (.inl k)))) = decide (k ∈ acc.map (·.1))
  | [] => rfl
  | q :: r => by
    rw [List.map_cons, List.any_cons, any_ints k r]
    simp only [kd, kdOf, Option.some.injEq, Kd.k.injEq, Sum.inl.injEq, List.map_cons, List.mem_cons, Bool.decide_or]
    congr 1
    exact decide_eq_decide.mpr ⟨fun h => h.symm, fun h => h.symm⟩
theorem put_new {acc : List (Int × D)} {k : Int} {v : D} (h : k ∉ acc.map (·.1)) : putD T (acc.map kd) (.int k) (.k (.inl k)) v = (acc ++ [(k, v)]).map kd := by
  unfold putD
  rw [any_ints, decide_eq_false h, List.map_append]
  rfl
theorem look_ints (k : Int) : ∀ acc : List (Int × D), lookD T (acc.map kd) (.k (.inl k)) = acc.lookup k
  | [] => rfl
  | q :: r => by
    obtain ⟨j, v⟩ := q
    rw [List.map_cons]
    simp only [lookD, kd, kdOf, Option.some.injEq, Kd.k.injEq, Sum.inl.injEq, List.lookup_cons]
    by_cases h : k = j
    · subst h; simp
    · have e : (k == j) = false := beq_eq_false_iff_ne.mpr h
      rw [if_neg (fun z => h z.symm), e]
      exact look_ints k r
theorem getK_ints (k : Int) (acc : List (Int × D)) : getK T (acc.map kd) (.int k) = some (acc.lookup k) := by
  unfold getK keyK
  simp only [kdOf, Option.bind_some, Kd.isB, Bool.not_false, Bool.true_and, kdAll_ints, if_true, Kd.isT, Bool.false_and]
  rw [look_ints]
  simp
theorem keyK_ints (k : Int) (acc : List (Int × D)) : keyK T (acc.map kd) (.int k) = some (.k (.inl k)) := by
  unfold keyK
  simp only [kdOf, Option.bind_some, Kd.isB, Bool.not_false, Bool.true_and, kdAll_ints, if_true]
theorem kK_ints : ∀ acc : List (Int × D), kK (acc.map kd) = true
  | [] => rfl
  | q :: r => by
    have := kK_ints r
    simp only [kK, List.map_cons, List.all_cons, kd, Bool.true_and] at this ⊢
    exact this
theorem nB_ints : ∀ acc : List (Int × D), nB (acc.map kd) = true
  | [] => rfl
  | q :: r => by
    have := nB_ints r
    simp only [nB, List.map_cons, List.all_cons, kd, Bool.true_and] at this ⊢
    exact this
theorem keys_ints (acc : List (Int × D)) : (acc.map kd).map (·.1) = (acc.map (·.1)).map PyData.int := by
  rw [List.map_map, List.map_map]
  rfl
theorem vals_ints (acc : List (Int × D)) : (acc.map kd).map (·.2) = acc.map (·.2) := by
  rw [List.map_map]
  rfl
/-- a dict comprehension with new keys -/
theorem compDK_new {β : Type} {f : D → Option (Option (D × D))} {g : β → D} {u : β → Option (Int × D)} : ∀ (bs : List β) (acc : List (Int × D)), (∀ b ∈ bs, f (g b) = some ((u b).map kd)) → ((acc ++ bs.filterMap u).map (·.1)).Nodup → compDK T f (bs.map g) (acc.map kd) = some ((acc ++ bs.filterMap u).map kd)
  | [], acc, _, _ => by simp [compDK]
  | b :: bs, acc, h, nd => by
    have h1 := h b List.mem_cons_self
    have h2 : ∀ c ∈ bs, f (g c) = some ((u c).map kd) := fun c hc => h c (List.mem_cons_of_mem _ hc)
    rw [List.map_cons]
    simp only [compDK, h1, Option.bind_some]
    cases hu : u b with
    | none =>
      rw [List.filterMap_cons, hu] at nd ⊢
      exact compDK_new bs acc h2 nd
    | some q =>
      obtain ⟨k, v⟩ := q
      rw [List.filterMap_cons, hu] at nd ⊢
      simp only at nd ⊢
      have hk : k ∉ acc.map (·.1) := by
        intro hk
        rw [List.map_append, List.map_cons] at nd
        have := (List.nodup_append.mp nd).2.2 k hk k List.mem_cons_self
        exact this rfl
      simp only [Option.map_some, kd, kdOf, Option.bind_some]
      rw [kdAll_ints k acc, if_pos rfl, put_new hk]
      have e : acc ++ (k, v) :: bs.filterMap u = (acc ++ [(k, v)]) ++ bs.filterMap u := by simp
      rw [e] at nd ⊢
      exact compDK_new bs _ h2 nd
end PL


set_option Elab.async false
set_option linter.all false
set_option maxRecDepth 100000
set_option exponentiation.threshold 20000
/-! ME: weights; spread_of_weights. -/
namespace PL
open PySem
abbrev Wt := List (Int × Int)
def wk (w : Wt) : List (Int × D) := w.map fun q => (q.1, .int q.2)
def wD (w : Wt) : D := .dict ((wk w).map kd)
def prD (q : Int × Int) : D := .tuple [.int q.1, .int q.2]
def rowsD (w : Wt) : D := .tuple (w.map prD)
def tot (w : Wt) : Int := (w.map (·.2)).sum
def spD (w : Wt) : D := .tuple [.int (tot w), rowsD w]
def gcdL (l : List Int) : Nat := l.foldl (fun a z => Nat.gcd a z.natAbs) 0
def posW (w : Wt) : Wt := w.filter fun q => decide (0 < q.2)
def valW (w : Wt) (k : Int) : Int := (w.lookup k).getD 0
/-- the spread that weights make -/
def nrm (w : Wt) : Wt := (sortI ((posW w).map (·.1))).map fun k => (k, valW (posW w) k / (gcdL ((posW w).map (·.2)) : Int))
theorem gcdL_from : ∀ (l : List Int) (a : Nat), l.foldl (fun a z => Nat.gcd a z.natAbs) a ∣ a ∧ ∀ z ∈ l, l.foldl (fun a z => Nat.gcd a z.natAbs) a ∣ z.natAbs
  | [], a => ⟨Nat.dvd_refl a, fun z h => by cases h⟩
  | y :: r, a => by
    obtain ⟨h1, h2⟩ := gcdL_from r (Nat.gcd a y.natAbs)
    refine ⟨Nat.dvd_trans h1 (Nat.gcd_dvd_left _ _), fun z hz => ?_⟩
    rcases List.mem_cons.mp hz with e | hz
    · subst e; exact Nat.dvd_trans h1 (Nat.gcd_dvd_right _ _)
    · exact h2 z hz
theorem gcdL_dvd {l : List Int} {z : Int} (h : z ∈ l) : gcdL l ∣ z.natAbs := (gcdL_from l 0).2 z h
theorem gcdL_pos {l : List Int} {z : Int} (h : z ∈ l) (hz : z ≠ 0) : 0 < gcdL l := Nat.pos_of_dvd_of_pos (gcdL_dvd h) (Int.natAbs_pos.mpr hz)
theorem sortI_perm (l : List Int) : (sortI l).Perm l := List.mergeSort_perm _ _
theorem wk_keys (w : Wt) : (wk w).map (·.1) = w.map (·.1) := by simp [wk]
theorem wk_vals (w : Wt) : (wk w).map (·.2) = (w.map (·.2)).map PyData.int := by simp [wk]
theorem wk_lookup (k : Int) : ∀ w : Wt, (wk w).lookup k = (w.lookup k).map PyData.int
  | [] => rfl
  | (j, v) :: r => by
    show List.lookup k ((j, PyData.int v) :: wk r) = _
    rw [List.lookup_cons, List.lookup_cons]
    by_cases e : k == j
    · simp [e]
    · simp only [e]
      exact wk_lookup k r
theorem lookup_of_mem {k : Int} : ∀ {w : Wt}, k ∈ w.map (·.1) → ∃ v, w.lookup k = some v
  | [], h => by cases h
  | (j, v) :: r, h => by
    rw [List.lookup_cons]
    by_cases e : k == j
    · exact ⟨v, by simp [e]⟩
    · rcases List.mem_cons.mp h with z | h
      · exact absurd (beq_iff_eq.mpr z) e
      · obtain ⟨v', h'⟩ := lookup_of_mem h
        exact ⟨v', by simp only [e]; exact h'⟩
section
variable {G : Gb}
theorem ev_dc {own : List Nat} {k v : Ex} {p : Pat} {it : Iu} {cond : Ox} {ρ : En} {ds : List D} {kvs : List (D × D)} (h : evI G it ρ = some ds) (c : compDK G.tups (stepDK own p (fun ρ1 => evC G cond ρ1) (fun ρ1 => ev G k ρ1) (fun ρ1 => ev G v ρ1) ρ) ds [] = some kvs) : ev G (.dc own k v p it cond) ρ = some (.dict kvs) := by
  simp only [ev, h, Option.bind_some, c, Option.map_some]
theorem ev_lc {own : List Nat} {e : Ex} {p : Pat} {it : Iu} {cond : Ox} {ρ : En} {ds out : List D} (h : evI G it ρ = some ds) (c : compL (stepL own p (fun ρ1 => evC G cond ρ1) (fun ρ1 => ev G e ρ1) ρ) ds = some out) : ev G (.lc own e p it cond) ρ = some (.list out) := by
  simp only [ev, h, Option.bind_some, c, Option.map_some]
theorem items_wD (w : Wt) : itemsI (wD w) = some (w.map prD) := by
  have k := kK_ints (wk w)
  simp only [itemsI, wD, k, if_true]
  congr 1
  simp only [wk, List.map_map]
  rfl
theorem vals_wD (w : Wt) : valsI (wD w) = some ((w.map (·.2)).map PyData.int) := by
  have k := kK_ints (wk w)
  simp only [valsI, wD, k, if_true, vals_ints, wk_vals]
theorem lvals_wD (w : Wt) : lvalsI (wD w) = some (.list ((w.map (·.2)).map PyData.int)) := by
  have k := kK_ints (wk w)
  simp only [lvalsI, wD, k, if_true, vals_ints, wk_vals]
theorem len_dict_ev {T : List D} (w : Wt) : biD T .len [wD w] = some (.int w.length) := by simp [biD, wD, wk]
theorem sow_ok (hM : G.cst "MOST_VALUES" = some (.int 5000)) (hC : ∀ l : List Int, Kn G "common_of" [.list (l.map PyData.int)] (.int (gcdL l : Int))) (w : Wt) (nd : (w.map (·.1)).Nodup) (h63 : w.length < 64) (hp : ∃ q ∈ w, 0 < q.2) (hb : ∀ q ∈ w, q.2.natAbs < 2 ^ 250) :
    run G 1 7 K22.b_spread_of_weights [wD w] = some (spD (nrm w)) := by
  have hfl : (posW w).length < 64 := Nat.lt_of_le_of_lt (List.length_filter_le _ _) h63
  have ndf : ((posW w).map (·.1)).Nodup := List.Nodup.sublist ((List.filter_sublist (l := w)).map _) nd
  obtain ⟨F, c1, c2⟩ := hC ((posW w).map (·.2))
  obtain ⟨q0, hq0, hq1⟩ := hp
  have hq2 : q0 ∈ posW w := List.mem_filter.mpr ⟨hq0, by simpa using hq1⟩
  have hg0 : 0 < gcdL ((posW w).map (·.2)) := gcdL_pos (List.mem_map_of_mem hq2) (by omega)
  have hg1 : gcdL ((posW w).map (·.2)) < 2 ^ 250 := Nat.lt_of_le_of_lt (Nat.le_of_dvd (by omega) (gcdL_dvd (List.mem_map_of_mem hq2))) (hb q0 hq0)
  -- the dict of those that weigh
  have e1 : ev G (.dc [4, 5] (.v 4) (.v 5) (.cons (.v 4) (.cons (.v 5) .nil)) (.items (.v 0)) (.some (.cmp .gt (.v 5) (.int 0)))) [.fz (wD w), .un, .un, .un, .un, .un, .un] = some (wD (posW w)) := by
    have ei : evI G (.items (.v 0)) [.fz (wD w), .un, .un, .un, .un, .un, .un] = some (w.map prD) := items_wD w
    have k := compDK_new (T := G.tups) (f := stepDK [4, 5] (.cons (.v 4) (.cons (.v 5) .nil)) (fun ρ1 => evC G (.some (.cmp .gt (.v 5) (.int 0))) ρ1) (fun ρ1 => ev G (.v 4) ρ1) (fun ρ1 => ev G (.v 5) ρ1) [.fz (wD w), .un, .un, .un, .un, .un, .un]) (g := prD) (u := fun q : Int × Int => if 0 < q.2 then some (q.1, PyData.int q.2) else none) w [] (fun q _ => by
      by_cases h : 0 < q.2
      · simp [stepDK, prD, bindP, unpD, wipeE, evC, ev, En.get, cmpD, asB, h, kd]
      · simp [stepDK, prD, bindP, unpD, wipeE, evC, ev, En.get, cmpD, asB, h])
    have fm : w.filterMap (fun q : Int × Int => if 0 < q.2 then some (q.1, PyData.int q.2) else none) = wk (posW w) := by
      unfold wk posW
      rw [← List.filterMap_eq_filter, List.map_filterMap]
      congr 1
      funext q
      by_cases h : 0 < q.2 <;> simp [h, Option.guard]
    rw [fm] at k
    have k := k (by simpa [wk_keys] using ndf)
    exact ev_dc ei k
  refine run_of (ρ := [.fz (wD w), .un, .un, .un, .un, .un, .un]) rfl rfl ?_
  unfold K22.b_spread_of_weights
  rw [evSs_nx (ρ' := [.fz (wD w), .fz (wD (posW w)), .un, .un, .un, .un, .un]) (by simp only [evS, e1, Option.bind_some, bindP, Option.map_some]; rfl)]
  rw [evSs_nx (ρ' := [.fz (wD w), .fz (wD (posW w)), .un, .un, .un, .un, .un]) (by
    have h : ¬ (5000 : Int) < ((posW w).length : Int) := by omega
    simp [evS, evSs, ev, evs, En.get, len_dict_ev, hM, cmpD, asB, h])]
  rw [evSs_nx (ρ' := [.fz (wD w), .fz (wD (posW w)), .fz (.int (gcdL ((posW w).map (·.2)) : Int)), .un, .un, .un, .un]) (by
    simp [-List.map_map, evS, ev, evs, En.get, lvals_wD, c1, c2, bindP])]
  have ks : ((posW w).map (·.1)).length < 64 := by rw [List.length_map]; exact hfl
  have e4 : ev G (.lc [4] (.tup (.cons (.v 4) (.cons (.op .fdiv (.ix (.v 1) (.v 4)) (.v 2)) .nil))) (.v 4) (.seq (.bi .sorted (.cons (.v 1) .nil))) .non) [.fz (wD w), .fz (wD (posW w)), .fz (.int (gcdL ((posW w).map (·.2)) : Int)), .un, .un, .un, .un] = some (.list ((nrm w).map prD)) := by
    have ei : evI G (.seq (.bi .sorted (.cons (.v 1) .nil))) [.fz (wD w), .fz (wD (posW w)), .fz (.int (gcdL ((posW w).map (·.2)) : Int)), .un, .un, .un, .un] = some ((sortI ((posW w).map (·.1))).map PyData.int) := by
      have hs : biD G.tups .sorted [wD (posW w)] = some (.list ((sortI ((posW w).map (·.1))).map PyData.int)) := by
        simp only [biD, wD, keys_ints, wk_keys, allInts_map, Option.bind_some]
        rw [if_pos ks]
      simp [-List.map_map, evI, ev, evs, En.get, hs, seqD]
    have k := compL_all (f := stepL [4] (.v 4) (fun ρ1 => evC G .non ρ1) (fun ρ1 => ev G (.tup (.cons (.v 4) (.cons (.op .fdiv (.ix (.v 1) (.v 4)) (.v 2)) .nil))) ρ1) [.fz (wD w), .fz (wD (posW w)), .fz (.int (gcdL ((posW w).map (·.2)) : Int)), .un, .un, .un, .un]) (g := PyData.int) (k := fun k => prD (k, valW (posW w) k / (gcdL ((posW w).map (·.2)) : Int))) (sortI ((posW w).map (·.1))) (fun k hk => by
      obtain ⟨v, hv⟩ := lookup_of_mem ((sortI_perm _).mem_iff.mp hk)
      have hi : ixD G.tups (wD (posW w)) (.int k) = some (.int v) := by
        simp only [ixD, wD, getK_ints, wk_lookup, hv, Option.map_some, Option.bind_some, id]
      have hd : opD .fdiv (.int v) (.int (gcdL ((posW w).map (·.2)) : Int)) = some (.int (v / (gcdL ((posW w).map (·.2)) : Int))) := if_pos ⟨by omega, Nat.lt_trans (log_lt (n := 250) (by simpa using hg1) (by decide)) (by decide)⟩
      simp [-List.map_map, stepL, bindP, wipeE, evC, ev, evs, En.get, hi, hd, prD, valW, hv])
    have k2 := ev_lc ei k
    rw [k2]
    unfold nrm
    rw [List.map_map]
    rfl
  have e4' : ev G (.bi .tuple (.cons (.lc [4] (.tup (.cons (.v 4) (.cons (.op .fdiv (.ix (.v 1) (.v 4)) (.v 2)) .nil))) (.v 4) (.seq (.bi .sorted (.cons (.v 1) .nil))) .non) .nil)) [.fz (wD w), .fz (wD (posW w)), .fz (.int (gcdL ((posW w).map (·.2)) : Int)), .un, .un, .un, .un] = some (rowsD (nrm w)) := by
    have z : evs G (.cons (.lc [4] (.tup (.cons (.v 4) (.cons (.op .fdiv (.ix (.v 1) (.v 4)) (.v 2)) .nil))) (.v 4) (.seq (.bi .sorted (.cons (.v 1) .nil))) .non) .nil) [.fz (wD w), .fz (wD (posW w)), .fz (.int (gcdL ((posW w).map (·.2)) : Int)), .un, .un, .un, .un] = some [.list ((nrm w).map prD)] := by
      unfold evs
      rw [e4]
      rfl
    show (evs G _ _).bind _ = _
    rw [z]
    rfl
  rw [evSs_nx (ρ' := [.fz (wD w), .fz (wD (posW w)), .fz (.int (gcdL ((posW w).map (·.2)) : Int)), .fz (rowsD (nrm w)), .un, .un, .un]) (by
    show (ev G (.bi .tuple _) _).bind _ = _
    rw [e4']
    simp [bindP])]
  have e5 : ev G (.lc [6, 5] (.v 5) (.cons (.v 6) (.cons (.v 5) .nil)) (.seq (.v 3)) .non) [.fz (wD w), .fz (wD (posW w)), .fz (.int (gcdL ((posW w).map (·.2)) : Int)), .fz (rowsD (nrm w)), .un, .un, .un] = some (.list (((nrm w).map (·.2)).map PyData.int)) := by
    have k := compL_all (f := stepL [6, 5] (.cons (.v 6) (.cons (.v 5) .nil)) (fun ρ1 => evC G .non ρ1) (fun ρ1 => ev G (.v 5) ρ1) [.fz (wD w), .fz (wD (posW w)), .fz (.int (gcdL ((posW w).map (·.2)) : Int)), .fz (rowsD (nrm w)), .un, .un, .un]) (g := prD) (k := fun q : Int × Int => PyData.int q.2) (nrm w) (fun q hq => by
      simp [-List.map_map, stepL, prD, bindP, unpD, wipeE, evC, ev, En.get])
    rw [ev_lc (ds := (nrm w).map prD) (by simp [evI, ev, En.get, rowsD, seqD]) k, List.map_map]
    rfl
  have e6 : ev G (.bi .sum (.cons (.lc [6, 5] (.v 5) (.cons (.v 6) (.cons (.v 5) .nil)) (.seq (.v 3)) .non) .nil)) [.fz (wD w), .fz (wD (posW w)), .fz (.int (gcdL ((posW w).map (·.2)) : Int)), .fz (rowsD (nrm w)), .un, .un, .un] = some (.int (tot (nrm w))) := by
    have z : evs G (.cons (.lc [6, 5] (.v 5) (.cons (.v 6) (.cons (.v 5) .nil)) (.seq (.v 3)) .non) .nil) [.fz (wD w), .fz (wD (posW w)), .fz (.int (gcdL ((posW w).map (·.2)) : Int)), .fz (rowsD (nrm w)), .un, .un, .un] = some [.list (((nrm w).map (·.2)).map PyData.int)] := by
      unfold evs
      rw [e5]
      rfl
    show (evs G _ _).bind _ = _
    rw [z]
    simp only [Option.bind_some, biD, allInts_map, Option.map_some]
    rfl
  refine evSs_rt ?_
  show (ev G (.tup _) _).map Out.rt = _
  have e7 : ev G (.tup (.cons (.bi .sum (.cons (.lc [6, 5] (.v 5) (.cons (.v 6) (.cons (.v 5) .nil)) (.seq (.v 3)) .non) .nil)) (.cons (.v 3) .nil))) [.fz (wD w), .fz (wD (posW w)), .fz (.int (gcdL ((posW w).map (·.2)) : Int)), .fz (rowsD (nrm w)), .un, .un, .un] = some (spD (nrm w)) := by
    show (evs G _ _).map PyData.tuple = _
    unfold evs
    rw [e6]
    rfl
  rw [e7]
  rfl
end
end PL


set_option Elab.async false
set_option linter.all false
set_option maxRecDepth 100000
/-! MF: a spread hangs on its weights up to scaling alone. -/
namespace PL
open PySem
theorem dvd_gcdL : ∀ (l : List Int) (a d : Nat), d ∣ l.foldl (fun a z => Nat.gcd a z.natAbs) a ↔ d ∣ a ∧ ∀ z ∈ l, d ∣ z.natAbs
  | [], a, d => by simp
  | y :: r, a, d => by
    rw [List.foldl_cons, dvd_gcdL r (Nat.gcd a y.natAbs) d, Nat.dvd_gcd_iff]
    simp only [List.mem_cons, forall_eq_or_imp]
    exact ⟨fun h => ⟨h.1.1, h.1.2, h.2⟩, fun h => ⟨⟨h.1, h.2.1⟩, h.2.2⟩⟩
theorem dvd_gcdL' (l : List Int) (d : Nat) : d ∣ gcdL l ↔ ∀ z ∈ l, d ∣ z.natAbs := by
  unfold gcdL
  rw [dvd_gcdL]
  simp
theorem gcdL_same {l l' : List Int} (h : ∀ z, z ∈ l ↔ z ∈ l') : gcdL l = gcdL l' :=
  Nat.dvd_antisymm ((dvd_gcdL' l' _).mpr fun z hz => gcdL_dvd ((h z).mpr hz)) ((dvd_gcdL' l _).mpr fun z hz => gcdL_dvd ((h z).mp hz))
theorem gcdL_mul_from (c : Nat) : ∀ (l : List Int) (a : Nat), (l.map fun z => (c : Int) * z).foldl (fun a z => Nat.gcd a z.natAbs) (c * a) = c * l.foldl (fun a z => Nat.gcd a z.natAbs) a
  | [], a => rfl
  | y :: r, a => by
    rw [List.map_cons, List.foldl_cons, List.foldl_cons, Int.natAbs_mul, Int.natAbs_natCast, Nat.gcd_mul_left]
    exact gcdL_mul_from c r _
theorem gcdL_mul (c : Nat) (l : List Int) : gcdL (l.map fun z => (c : Int) * z) = c * gcdL l := by
  have h := gcdL_mul_from c l 0
  rw [Nat.mul_zero] at h
  exact h
theorem lookup_mem_iff {w : Wt} (nd : (w.map (·.1)).Nodup) {k v : Int} : w.lookup k = some v ↔ (k, v) ∈ w := by
  induction w with
  | nil => simp
  | cons q r ih =>
    obtain ⟨j, u⟩ := q
    rw [List.map_cons, List.nodup_cons] at nd
    rw [List.lookup_cons]
    by_cases e : k = j
    · subst e
      simp only [beq_self_eq_true, Option.some.injEq, List.mem_cons, Prod.mk.injEq, true_and]
      refine ⟨fun h => .inl h.symm, fun h => ?_⟩
      rcases h with h | h
      · exact h.symm
      · exact absurd (List.mem_map_of_mem (f := Prod.fst) h) nd.1
    · have e' : (k == j) = false := beq_eq_false_iff_ne.mpr e
      simp only [e', List.mem_cons, Prod.mk.injEq, e, false_and, false_or]
      exact ih nd.2
theorem posW_nd {w : Wt} (nd : (w.map (·.1)).Nodup) : ((posW w).map (·.1)).Nodup := List.Nodup.sublist ((List.filter_sublist (l := w)).map _) nd
theorem mem_posW {w : Wt} {q : Int × Int} : q ∈ posW w ↔ q ∈ w ∧ 0 < q.2 := by simp [posW]
theorem key_pos {w : Wt} (nd : (w.map (·.1)).Nodup) {k : Int} : k ∈ (posW w).map (·.1) ↔ 0 < valW w k := by
  constructor
  · intro h
    obtain ⟨q, h1, h2⟩ := List.mem_map.mp h
    obtain ⟨h3, h4⟩ := mem_posW.mp h1
    obtain ⟨j, v⟩ := q
    simp only at h2 h4
    subst h2
    unfold valW
    rw [(lookup_mem_iff nd).mpr h3]
    exact h4
  · intro h
    unfold valW at h
    cases e : w.lookup k with
    | none => rw [e] at h; simp at h
    | some v =>
      rw [e] at h
      exact List.mem_map.mpr ⟨(k, v), mem_posW.mpr ⟨(lookup_mem_iff nd).mp e, h⟩, rfl⟩
theorem val_pos {w : Wt} (nd : (w.map (·.1)).Nodup) {k : Int} (h : k ∈ (posW w).map (·.1)) : valW (posW w) k = valW w k := by
  obtain ⟨q, h1, h2⟩ := List.mem_map.mp h
  obtain ⟨j, v⟩ := q
  simp only at h2
  subst h2
  unfold valW
  rw [(lookup_mem_iff (posW_nd nd)).mpr h1, (lookup_mem_iff nd).mpr (mem_posW.mp h1).1]
theorem pos_vals {w : Wt} (nd : (w.map (·.1)).Nodup) : (posW w).map (·.2) = ((posW w).map (·.1)).map (valW w) := by
  rw [List.map_map]
  refine List.map_congr_left fun q hq => ?_
  obtain ⟨j, v⟩ := q
  show v = valW w j
  unfold valW
  rw [(lookup_mem_iff nd).mpr (mem_posW.mp hq).1]
  rfl
theorem sortI_sorted (l : List Int) : (sortI l).Pairwise (· ≤ ·) := by
  refine List.Pairwise.imp ?_ (List.pairwise_mergeSort (le := fun a b : Int => decide (a ≤ b)) ?_ ?_ l)
  · intro a b h
    exact of_decide_eq_true h
  · intro a b c h1 h2
    simp only [decide_eq_true_eq] at h1 h2 ⊢
    omega
  · intro a b
    simp only [Bool.or_eq_true, decide_eq_true_eq]
    omega
theorem sortI_same {l l' : List Int} (h : l.Perm l') : sortI l = sortI l' := PySem.W.ksm_same ((sortI_perm l).trans (h.trans (sortI_perm l').symm)) (sortI_sorted l) (sortI_sorted l')
/-- weights in the same proportions make the same spread -/
theorem nrm_same {w w' : Wt} (nd : (w.map (·.1)).Nodup) (nd' : (w'.map (·.1)).Nodup) {c c' : Nat} (hc : 0 < c) (hc' : 0 < c') (h : ∀ k, (c : Int) * valW w k = (c' : Int) * valW w' k) : nrm w = nrm w' := by
  have keys : ∀ k, k ∈ (posW w).map (·.1) ↔ k ∈ (posW w').map (·.1) := by
    intro k
    rw [key_pos nd, key_pos nd']
    have hk := h k
    have c1 : (0 : Int) < c := by omega
    have c2 : (0 : Int) < c' := by omega
    constructor
    · intro p
      have : 0 < (c : Int) * valW w k := Int.mul_pos c1 p
      rw [hk] at this
      exact Int.lt_of_mul_lt_mul_left (a := (c' : Int)) (by rw [Int.mul_zero]; exact this) (Int.le_of_lt c2)
    · intro p
      have : 0 < (c' : Int) * valW w' k := Int.mul_pos c2 p
      rw [← hk] at this
      exact Int.lt_of_mul_lt_mul_left (a := (c : Int)) (by rw [Int.mul_zero]; exact this) (Int.le_of_lt c1)
  have perm : ((posW w).map (·.1)).Perm ((posW w').map (·.1)) := (List.perm_ext_iff_of_nodup (posW_nd nd) (posW_nd nd')).mpr keys
  have es := sortI_same perm
  have eg : c * gcdL ((posW w).map (·.2)) = c' * gcdL ((posW w').map (·.2)) := by
    rw [← gcdL_mul, ← gcdL_mul]
    refine gcdL_same fun z => ?_
    rw [pos_vals nd, pos_vals nd']
    have mm : ∀ {K : List Int} {f : Int → Int} {d : Nat}, z ∈ (K.map f).map (fun x => (d : Int) * x) ↔ ∃ k ∈ K, (d : Int) * f k = z := by
      intro K f d
      rw [List.map_map, List.mem_map]
      rfl
    rw [mm, mm]
    exact ⟨fun ⟨k, hk, e⟩ => ⟨k, (keys k).mp hk, by rw [← h k]; exact e⟩, fun ⟨k, hk, e⟩ => ⟨k, (keys k).mpr hk, by rw [h k]; exact e⟩⟩
  unfold nrm
  rw [es]
  refine List.map_congr_left fun k hk => ?_
  have hk' : k ∈ (posW w').map (·.1) := (sortI_perm _).mem_iff.mp hk
  have hk1 := (keys k).mpr hk'
  rw [val_pos nd hk1, val_pos nd' hk']
  have v1 := (key_pos nd).mp hk1
  have v2 := (key_pos nd').mp hk'
  have m1 : valW w k ∈ (posW w).map (·.2) := by rw [pos_vals nd]; exact List.mem_map_of_mem hk1
  have m2 : valW w' k ∈ (posW w').map (·.2) := by rw [pos_vals nd']; exact List.mem_map_of_mem hk'
  have g1 := gcdL_pos m1 (by omega)
  have g2 := gcdL_pos m2 (by omega)
  obtain ⟨t1, d1⟩ := Int.natAbs_dvd_natAbs.mp (by simpa using gcdL_dvd m1 : ((gcdL ((posW w).map (·.2)) : Int)).natAbs ∣ (valW w k).natAbs)
  obtain ⟨t2, d2⟩ := Int.natAbs_dvd_natAbs.mp (by simpa using gcdL_dvd m2 : ((gcdL ((posW w').map (·.2)) : Int)).natAbs ∣ (valW w' k).natAbs)
  have hk3 := h k
  generalize gcdL ((posW w).map (·.2)) = a at *
  generalize gcdL ((posW w').map (·.2)) = b at *
  have ea : ((c : Int) * a) = (c' : Int) * b := by exact_mod_cast eg
  have ha : (0 : Int) < a := by omega
  have hb : (0 : Int) < b := by omega
  rw [d1, d2, Int.mul_ediv_cancel_left _ (by omega), Int.mul_ediv_cancel_left _ (by omega)]
  rw [d1, d2, ← Int.mul_assoc, ← Int.mul_assoc, ea] at hk3
  have hcb : (0 : Int) < (c' : Int) * b := Int.mul_pos (by omega) hb
  rw [Int.eq_of_mul_eq_mul_left (Int.ne_of_gt hcb) hk3]
end PL


set_option Elab.async false
set_option linter.all false
set_option maxRecDepth 100000
/-! MG: a valid spread has no fault. -/
namespace PL
open PySem
structure Vs (w : Wt) : Prop where
  ne : w ≠ []
  len : w.length ≤ 5000
  inc : (w.map (·.1)).Pairwise (· < ·)
  pos : ∀ q ∈ w, 1 ≤ q.2
  gcd : gcdL (w.map (·.2)) = 1
theorem atI_nat {α : Type} (l : List α) {i : Nat} {x : α} (h : l[i]? = some x) : L2.atI l (i : Int) = some x := by
  have hi : i < l.length := (List.getElem?_eq_some_iff.mp h).1
  unfold L2.atI
  have e : L2.ixN l.length (i : Int) = some i := by
    unfold L2.ixN
    simp
    omega
  rw [e]
  exact h
theorem row_at {T : List D} {w : Wt} {i : Nat} {q : Int × Int} (h : w[i]? = some q) : ixD T (rowsD w) (.int (i : Int)) = some (prD q) := by
  show L2.atI (w.map prD) (i : Int) = _
  exact atI_nat _ (by rw [List.getElem?_map, h]; rfl)
theorem pr0 {T : List D} (q : Int × Int) : ixD T (prD q) (.int 0) = some (.int q.1) := rfl
theorem pr1 {T : List D} (q : Int × Int) : ixD T (prD q) (.int 1) = some (.int q.2) := rfl
theorem isi_tup (ds : List D) : isiD "tuple" (.tuple ds) = some true := by rfl
section
variable {G : Gb}
theorem is_weighed_ok (hi : ∀ z, Kn G "is_integer" [.int z] (.bool true)) (hv : ∀ z, Kn G "is_value" [.int z] (.bool true)) (q : Int × Int) (h : 1 ≤ q.2) : run G 1 1 K22.b__is_weighed [prD q] = some (.bool true) := by
  obtain ⟨F, f1, f2⟩ := hi q.2
  obtain ⟨F', g1, g2⟩ := hv q.1
  have ht : isiD "tuple" (prD q) = some true := rfl
  have hl : biD G.tups .len [prD q] = some (.int 2) := rfl
  have he : cmpD G.tups .eq (.int 2) (.int 2) = some true := rfl
  have hg : cmpD G.tups .ge (.int q.2) (.int 1) = some true := by simp [cmpD, h]
  simp [run, K22.b__is_weighed, evSs, evS, ev, evs, En.get, asB, ht, hl, he, pr0, pr1, f1, f2, g1, g2, hg]
theorem spread_fault_ok (hi : ∀ z, Kn G "is_integer" [.int z] (.bool true)) (hr : ∀ z, Kn G "is_row" [.int z] (.bool false)) (hw : ∀ q : Int × Int, 1 ≤ q.2 → Kn G "_is_weighed" [prD q] (.bool true)) (hM : G.cst "MOST_VALUES" = some (.int 5000)) (hC : ∀ l : List Int, Kn G "common_of" [.list (l.map PyData.int)] (.int (gcdL l : Int))) {w : Wt} (v : Vs w) :
    run G 1 8 K22.b_spread_fault [spD w] = some .none := by
  refine run_of (ρ := [.fz (spD w), .un, .un, .un, .un, .un, .un, .un]) rfl rfl ?_
  unfold K22.b_spread_fault
  obtain ⟨F, f1, f2⟩ := hi (tot w)
  rw [evSs_nx (ρ' := [.fz (spD w), .un, .un, .un, .un, .un, .un, .un]) (by
    have ht : isiD "tuple" (spD w) = some true := rfl
    have hl : biD G.tups .len [spD w] = some (.int 2) := rfl
    have he : cmpD G.tups .ne (.int 2) (.int 2) = some false := rfl
    have h0 : ixD G.tups (spD w) (.int 0) = some (.int (tot w)) := rfl
    simp [evS, evSs, ev, evs, En.get, asB, ht, hl, he, h0, f1, f2])]
  rw [evSs_nx (ρ' := [.fz (spD w), .fz (.int (tot w)), .fz (rowsD w), .un, .un, .un, .un, .un]) (by rfl)]
  have hlen : 1 ≤ w.length := by
    cases w with
    | nil => exact absurd rfl v.ne
    | cons _ _ => simp
  rw [evSs_nx (ρ' := [.fz (spD w), .fz (.int (tot w)), .fz (rowsD w), .un, .un, .un, .un, .un]) (by
    have ht : isiD "tuple" (rowsD w) = some true := rfl
    have hl : biD G.tups .len [rowsD w] = some (.int w.length) := by simp [biD, rowsD]
    have h1 : cmpD G.tups .le (.int 1) (.int w.length) = some true := by simp [cmpD]; omega
    have h2 : cmpD G.tups .le (.int w.length) (.int 5000) = some true := by have := v.len; simp [cmpD]; omega
    simp [evS, evSs, ev, evs, En.get, asB, ht, hl, h1, h2, hM])]
  obtain ⟨q0, hq0⟩ : ∃ q0, w[0]? = some q0 := ⟨w[0], List.getElem?_eq_getElem hlen⟩
  have key : forL (fun d ρ1 => (bindP (.cons (.v 3) (.cons (.v 4) .nil)) d ρ1).bind fun ρ2 => evSs G (.cons (.ife (.or_ (.not_ (.call "_is_weighed" (.cons (.v 4) .nil))) (.cmp .ne (.call "is_row" (.cons (.ix (.v 4) (.int 0)) .nil)) (.call "is_row" (.cons (.ix (.ix (.v 2) (.int 0)) (.int 0)) .nil)))) (.cons (.ret (.tup (.cons (.str "row") (.cons (.v 3) .nil)))) .nil) .nil) (.cons (.ife (.and_ (.cmp .gt (.v 3) (.int 0)) (.not_ (.cmp .lt (.ix (.ix (.v 2) (.op .sub (.v 3) (.int 1))) (.int 0)) (.ix (.v 4) (.int 0))))) (.cons (.ret (.tup (.cons (.str "row") (.cons (.v 3) .nil)))) .nil) .nil) .nil)) ρ2)
      (w.zipIdx.map fun b => .tuple [.int (b.2 : Int), prD b.1]) [.fz (spD w), .fz (.int (tot w)), .fz (rowsD w), .un, .un, .un, .un, .un] = some (.nx ((fun s : Sl × Sl => ([.fz (spD w), .fz (.int (tot w)), .fz (rowsD w), s.1, s.2, .un, .un, .un] : En)) (w.zipIdx.foldl (fun _ b => (Sl.fz (.int (b.2 : Int)), Sl.fz (prD b.1))) (.un, .un)))) := by
    refine forL_run (fun s : Sl × Sl => ([.fz (spD w), .fz (.int (tot w)), .fz (rowsD w), s.1, s.2, .un, .un, .un] : En)) (fun bs _ => ∀ b ∈ bs, w[b.2]? = some b.1) (fun _ b => (Sl.fz (.int (b.2 : Int)), Sl.fz (prD b.1))) (fun b bs s r => ⟨?_, fun c hc => r c (List.mem_cons_of_mem _ hc)⟩) w.zipIdx (.un, .un) (fun b hb => by
      obtain ⟨q, i⟩ := b
      exact List.mem_zipIdx_iff_getElem?.mp hb)
    obtain ⟨q, i⟩ := b
    have hq : w[i]? = some q := r (q, i) List.mem_cons_self
    have hp := v.pos q (List.mem_of_getElem? hq)
    obtain ⟨W, w1, w2⟩ := hw q hp
    obtain ⟨R, r1, r2⟩ := hr q.1
    obtain ⟨R', r1', r2'⟩ := hr q0.1
    rw [r1] at r1'
    cases r1'
    have hne : cmpD G.tups .ne (.bool false) (.bool false) = some false := rfl
    have h00 : ixD G.tups (rowsD w) (.int 0) = some (prD q0) := row_at (i := 0) hq0
    have c2 : evS G (.ife (.and_ (.cmp .gt (.v 3) (.int 0)) (.not_ (.cmp .lt (.ix (.ix (.v 2) (.op .sub (.v 3) (.int 1))) (.int 0)) (.ix (.v 4) (.int 0))))) (.cons (.ret (.tup (.cons (.str "row") (.cons (.v 3) .nil)))) .nil) .nil) [.fz (spD w), .fz (.int (tot w)), .fz (rowsD w), .fz (.int (i : Int)), .fz (prD q), .un, .un, .un] = some (.nx [.fz (spD w), .fz (.int (tot w)), .fz (rowsD w), .fz (.int (i : Int)), .fz (prD q), .un, .un, .un]) := by
      cases i with
      | zero => simp [evS, evSs, ev, En.get, asB, cmpD]
      | succ j =>
        have hj : j < w.length := by have := (List.getElem?_eq_some_iff.mp hq).1; omega
        have hq' : w[j]? = some w[j] := List.getElem?_eq_getElem hj
        have hx : ixD G.tups (rowsD w) (.int (((j + 1 : Nat) : Int) - 1)) = some (prD w[j]) := by
          rw [show ((j + 1 : Nat) : Int) - 1 = (j : Int) by omega]
          exact row_at hq'
        have hlt : w[j].1 < q.1 := by
          obtain ⟨h1, h2⟩ := List.getElem?_eq_some_iff.mp hq
          have := List.pairwise_iff_getElem.mp v.inc j (j + 1) (by simpa using hj) (by simpa using h1) (by omega)
          simpa [h2] using this
        have hgt : cmpD G.tups .gt (.int ((j + 1 : Nat) : Int)) (.int 0) = some true := by simp [cmpD] <;> omega
        have hl2 : cmpD G.tups .lt (.int w[j].1) (.int q.1) = some true := by simp [cmpD, ltD, hlt]
        simp only [evS, evSs, ev, En.get, asB, List.getElem?_cons_zero, List.getElem?_cons_succ, Option.bind_some, Option.map_some, hgt, if_true, sub_i, hx, pr0, hl2, Bool.not_true, Bool.false_eq_true, if_false]
    simp only [bindP, unpD, Option.bind_some, List.set_cons_succ, List.set_cons_zero]
    rw [evSs_nx (ρ' := [.fz (spD w), .fz (.int (tot w)), .fz (rowsD w), .fz (.int (i : Int)), .fz (prD q), .un, .un, .un]) (by
      simp [evS, evSs, ev, evs, En.get, asB, w1, w2, r1, r2, r2', pr0, h00, hne])]
    rw [evSs_nx c2]
    rfl
  generalize hs : w.zipIdx.foldl (fun _ b => (Sl.fz (.int (b.2 : Int)), Sl.fz (prD b.1))) ((Sl.un, Sl.un) : Sl × Sl) = st at key
  have hen : evI G (.enum (.v 2)) [.fz (spD w), .fz (.int (tot w)), .fz (rowsD w), .un, .un, .un, .un, .un] = some (w.zipIdx.map fun b => .tuple [.int (b.2 : Int), prD b.1]) := by
    show enumI (rowsD w) = _
    simp only [enumI, rowsD, enumD, List.zipIdx_map, List.map_map]
    rfl
  rw [evSs_nx (evS_for hen key)]
  have e5 : ev G (.lc [6, 7] (.v 7) (.cons (.v 6) (.cons (.v 7) .nil)) (.seq (.v 2)) .non) [.fz (spD w), .fz (.int (tot w)), .fz (rowsD w), st.1, st.2, .un, .un, .un] = some (.list ((w.map (·.2)).map PyData.int)) := by
    have k := compL_all (f := stepL [6, 7] (.cons (.v 6) (.cons (.v 7) .nil)) (fun ρ1 => evC G .non ρ1) (fun ρ1 => ev G (.v 7) ρ1) [.fz (spD w), .fz (.int (tot w)), .fz (rowsD w), st.1, st.2, .un, .un, .un]) (g := prD) (k := fun q : Int × Int => PyData.int q.2) w (fun q hq => by
      simp [-List.map_map, stepL, prD, bindP, unpD, wipeE, evC, ev, En.get])
    rw [ev_lc (ds := w.map prD) (by rfl) k, List.map_map]
    rfl
  rw [evSs_nx (ρ' := [.fz (spD w), .fz (.int (tot w)), .fz (rowsD w), st.1, st.2, .fz (.list ((w.map (·.2)).map PyData.int)), .un, .un]) (by
    show (ev G _ _).bind _ = _
    rw [e5]
    rfl)]
  have hsum : biD G.tups .sum [.list ((w.map (·.2)).map PyData.int)] = some (.int (tot w)) := by
    simp only [biD, allInts_map, Option.map_some]
    rfl
  have hne : cmpD G.tups .ne (.int (tot w)) (.int (tot w)) = some false := by
    simp [cmpD, PyData.eqv, SeqAt.shaped, PyData.canLay0, PyData.depth]
  rw [evSs_nx (ρ' := [.fz (spD w), .fz (.int (tot w)), .fz (rowsD w), st.1, st.2, .fz (.list ((w.map (·.2)).map PyData.int)), .un, .un]) (by
    simp [-List.map_map, evS, evSs, ev, evs, En.get, asB, hsum, hne])]
  obtain ⟨F2, k1, k2⟩ := hC (w.map (·.2))
  rw [v.gcd] at k2
  have k2 : F2 [.list ((w.map (·.2)).map PyData.int)] = some (.int 1) := k2
  have hg : cmpD G.tups .gt (.int 1) (.int 1) = some false := by simp [cmpD]
  refine evSs_rt ?_
  simp [-List.map_map, evS, evSs, ev, evs, En.get, asB, k1, k2, hg]
end
end PL


set_option Elab.async false
set_option linter.all false
set_option maxRecDepth 100000
/-! MH: weights make a valid spread. -/
namespace PL
open PySem
theorem lt_of_sorted : ∀ {l : List Int}, l.Pairwise (· ≤ ·) → l.Nodup → l.Pairwise (· < ·)
  | [], _, _ => .nil
  | a :: r, h, nd => by
    rw [List.pairwise_cons] at h ⊢
    rw [List.nodup_cons] at nd
    exact ⟨fun b hb => by
      have h1 := h.1 b hb
      have h2 : a ≠ b := fun e => nd.1 (e ▸ hb)
      omega, lt_of_sorted h.2 nd.2⟩
theorem nrm_keys (w : Wt) : (nrm w).map (·.1) = sortI ((posW w).map (·.1)) := by
  unfold nrm
  rw [List.map_map]
  show (sortI _).map (fun k => k) = _
  exact List.map_id _
theorem mem_nrm {w : Wt} (nd : (w.map (·.1)).Nodup) {q : Int × Int} (h : q ∈ nrm w) : q.1 ∈ (posW w).map (·.1) ∧ 0 < valW w q.1 ∧ (gcdL ((posW w).map (·.2)) : Int) * q.2 = valW w q.1 ∧ 0 < gcdL ((posW w).map (·.2)) := by
  unfold nrm at h
  obtain ⟨k, hk, e⟩ := List.mem_map.mp h
  have hk1 : k ∈ (posW w).map (·.1) := (sortI_perm _).mem_iff.mp hk
  have hv := (key_pos nd).mp hk1
  have m1 : valW w k ∈ (posW w).map (·.2) := by rw [pos_vals nd]; exact List.mem_map_of_mem hk1
  have g1 := gcdL_pos m1 (by omega)
  subst e
  refine ⟨hk1, hv, ?_, g1⟩
  show (gcdL _ : Int) * (valW (posW w) k / _) = _
  rw [val_pos nd hk1]
  exact Int.mul_ediv_cancel' (Int.natAbs_dvd_natAbs.mp (by simpa using gcdL_dvd m1))
theorem nrm_vs {w : Wt} (nd : (w.map (·.1)).Nodup) (hl : w.length ≤ 5000) (hp : ∃ q ∈ w, 0 < q.2) : Vs (nrm w) := by
  obtain ⟨q0, h1, h2⟩ := hp
  have hq2 : q0 ∈ posW w := mem_posW.mpr ⟨h1, h2⟩
  have len : (nrm w).length = (posW w).length := by
    have := congrArg List.length (nrm_keys w)
    simpa [(sortI_perm _).length_eq] using this
  refine ⟨fun e => ?_, ?_, ?_, fun q hq => ?_, ?_⟩
  · rw [e] at len
    have : 0 < (posW w).length := List.length_pos_of_mem hq2
    simp at len
    omega
  · rw [len]
    exact Nat.le_trans (List.length_filter_le _ _) hl
  · rw [nrm_keys]
    exact lt_of_sorted (sortI_sorted _) ((sortI_perm _).nodup_iff.mpr (posW_nd nd))
  · obtain ⟨_, a, b, c⟩ := mem_nrm nd hq
    have hc : (0 : Int) < (gcdL ((posW w).map (·.2)) : Int) := by omega
    rw [← b] at a
    have : 0 < q.2 := Int.lt_of_mul_lt_mul_left (a := (gcdL ((posW w).map (·.2)) : Int)) (by rw [Int.mul_zero]; exact a) (Int.le_of_lt hc)
    omega
  · have g1 : 0 < gcdL ((posW w).map (·.2)) := gcdL_pos (List.mem_map_of_mem hq2) (by omega)
    have e : gcdL (((nrm w).map (·.2)).map fun z => (gcdL ((posW w).map (·.2)) : Int) * z) = gcdL ((posW w).map (·.2)) := by
      refine gcdL_same fun z => ?_
      constructor
      · intro hz
        obtain ⟨y, hy, e⟩ := List.mem_map.mp hz
        obtain ⟨q, hq, e2⟩ := List.mem_map.mp hy
        obtain ⟨a, _, b, _⟩ := mem_nrm nd hq
        rw [pos_vals nd]
        refine List.mem_map.mpr ⟨q.1, a, ?_⟩
        rw [← b, e2, e]
      · intro hz
        rw [pos_vals nd] at hz
        obtain ⟨k, hk, e⟩ := List.mem_map.mp hz
        have hk' : k ∈ (nrm w).map (·.1) := by rw [nrm_keys]; exact (sortI_perm _).mem_iff.mpr hk
        obtain ⟨q, hq, e2⟩ := List.mem_map.mp hk'
        obtain ⟨_, _, b, _⟩ := mem_nrm nd hq
        refine List.mem_map.mpr ⟨q.2, List.mem_map_of_mem hq, ?_⟩
        rw [b, e2, e]
    rw [gcdL_mul] at e
    exact Nat.eq_of_mul_eq_mul_left g1 (by rw [e, Nat.mul_one])
end PL


set_option Elab.async false
set_option linter.all false
set_option maxRecDepth 100000
set_option exponentiation.threshold 20000
/-! MI: chances. -/
namespace PL
open PySem
theorem tot_pos : ∀ {w : Wt}, w ≠ [] → (∀ q ∈ w, 1 ≤ q.2) → 0 < tot w
  | [], h, _ => absurd rfl h
  | [q], _, hp => by
    have := hp q List.mem_cons_self
    simp [tot]
    omega
  | q :: p :: r, _, hp => by
    have h1 := hp q List.mem_cons_self
    have h2 := tot_pos (w := p :: r) (by simp) fun x hx => hp x (List.mem_cons_of_mem _ hx)
    simp only [tot, List.map_cons, List.sum_cons] at h2 ⊢
    omega
/-- a value's chance -/
def pr (w : Wt) (k : Int) : Rat := mkRat (valW w k) (tot w).toNat
def shK (w : Wt) : List (Int × D) := w.map fun q => (q.1, fr (mkRat q.2 (tot w).toNat))
def shD (w : Wt) : D := .dict ((shK w).map kd)
section
variable {G : Gb}
theorem shares_of_ok (L : LpOk G) {w : Wt} (v : Vs w) (ht : (tot w).toNat < 2 ^ 9000) : run G 1 3 K22.b_shares_of [spD w] = some (shD w) := by
  have tp := tot_pos v.ne v.pos
  have et : ((tot w).toNat : Int) = tot w := Int.toNat_of_nonneg (by omega)
  have ei : evI G (.seq (.ix (.v 0) (.int 1))) [.fz (spD w), .un, .un] = some (w.map prD) := by rfl
  have nd : (w.map (·.1)).Nodup := v.inc.imp fun h => Int.ne_of_lt h
  have k := compDK_new (T := G.tups) (f := stepDK [1, 2] (.cons (.v 1) (.cons (.v 2) .nil)) (fun ρ1 => evC G .non ρ1) (fun ρ1 => ev G (.v 1) ρ1) (fun ρ1 => ev G (.call "least_pair" (.cons (.v 2) (.cons (.ix (.v 0) (.int 0)) .nil))) ρ1) [.fz (spD w), .un, .un]) (g := prD) (u := fun q : Int × Int => some (q.1, fr (mkRat q.2 (tot w).toNat))) w [] (fun q _ => by
    obtain ⟨F, f1, f2⟩ := L q.2 (tot w).toNat (by omega) ht
    rw [et] at f2
    have h0 : ixD G.tups (spD w) (.int 0) = some (.int (tot w)) := rfl
    simp [stepDK, prD, bindP, unpD, wipeE, evC, ev, evs, En.get, f1, f2, h0, kd])
  have fm : w.filterMap (fun q : Int × Int => some (q.1, fr (mkRat q.2 (tot w).toNat))) = shK w := by
    unfold shK
    rw [← List.filterMap_eq_map]
    rfl
  rw [fm] at k
  have k := k (by
    simp only [List.nil_append, shK, List.map_map]
    exact nd)
  refine run_of (ρ := [.fz (spD w), .un, .un]) rfl rfl ?_
  unfold K22.b_shares_of
  refine evSs_rt ?_
  show (ev G (.dc _ _ _ _ _ _) _).map Out.rt = _
  rw [ev_dc ei k]
  rfl
theorem shK_lookup (k : Int) (w' : Wt) : ∀ w : Wt, (w.map fun q => (q.1, fr (mkRat q.2 (tot w').toNat))).lookup k = (w.lookup k).map fun v => fr (mkRat v (tot w').toNat)
  | [] => rfl
  | (j, v) :: r => by
    rw [List.map_cons, List.lookup_cons, List.lookup_cons]
    by_cases e : k == j
    · simp [e]
    · simp only [e]
      exact shK_lookup k w' r
theorem chance_of_ok (hN : G.cst "NOUGHT" = some (fr 0)) (hck : ∀ w, Vs w → Kn G "check_spread" [spD w] .none) (hv : ∀ z, Kn G "is_value" [.int z] (.bool true)) {w : Wt} (v : Vs w) (hs : Kn G "shares_of" [spD w] (shD w)) (k : Int) : run G 2 2 K22.b_chance_of [spD w, .int k] = some (fr (pr w k)) := by
  obtain ⟨F, f1, f2⟩ := hck w v
  obtain ⟨F', g1, g2⟩ := hv k
  obtain ⟨S, s1, s2⟩ := hs
  have hd : dget G.tups (shD w) (.int k) (fr 0) = some (fr (pr w k)) := by
    simp only [dget, shD, getK_ints, Option.map_some, Option.some.injEq]
    unfold shK pr valW
    rw [shK_lookup]
    cases w.lookup k with
    | none => simp
    | some v => rfl
  refine run_of (ρ := [.fz (spD w), .fz (.int k)]) rfl rfl ?_
  unfold K22.b_chance_of
  rw [evSs_nx (ρ' := [.fz (spD w), .fz (.int k)]) (by simp [evS, ev, evs, En.get, f1, f2])]
  rw [evSs_nx (ρ' := [.fz (spD w), .fz (.int k)]) (by simp [evS, evSs, ev, evs, En.get, g1, g2, asB])]
  refine evSs_rt ?_
  simp [evS, ev, evs, En.get, s1, s2, hN, hd]
theorem check_spread_ok {w : Wt} (h : Kn G "spread_fault" [spD w] .none) : run G 1 1 K22.b_check_spread [spD w] = some .none := by
  obtain ⟨F, f1, f2⟩ := h
  simp [run, K22.b_check_spread, evSs, evS, ev, evs, En.get, f1, f2, asB, isNo]
end
end PL


set_option Elab.async false
set_option linter.all false
set_option maxRecDepth 100000
/-! MJ: a spread by its shares. -/
namespace PL
open PySem
abbrev Sh := List (Int × Rat)
def sk (ps : Sh) : List (Int × D) := ps.map fun q => (q.1, fr q.2)
def sD (ps : Sh) : D := .dict ((sk ps).map kd)
def lcmS (ps : Sh) : Nat := ps.foldl (fun a q => Nat.lcm a q.2.den) 1
/-- the weights that the shares make -/
def scW (ps : Sh) : Wt := ps.map fun q => (q.1, q.2.num * ((lcmS ps : Int) / (q.2.den : Int)))
theorem lcm_from : ∀ (ps : Sh) (a : Nat), a ∣ ps.foldl (fun a q => Nat.lcm a q.2.den) a ∧ ∀ q ∈ ps, q.2.den ∣ ps.foldl (fun a q => Nat.lcm a q.2.den) a
  | [], a => ⟨Nat.dvd_refl a, fun q h => by cases h⟩
  | p :: r, a => by
    obtain ⟨h1, h2⟩ := lcm_from r (Nat.lcm a p.2.den)
    refine ⟨Nat.dvd_trans (Nat.dvd_lcm_left _ _) h1, fun q hq => ?_⟩
    rcases List.mem_cons.mp hq with e | hq
    · subst e; exact Nat.dvd_trans (Nat.dvd_lcm_right _ _) h1
    · exact h2 q hq
theorem lcm_dvd_from {M : Nat} : ∀ (ps : Sh) (a : Nat), a ∣ M → (∀ q ∈ ps, q.2.den ∣ M) → ps.foldl (fun a q => Nat.lcm a q.2.den) a ∣ M
  | [], a, h, _ => h
  | p :: r, a, h, hq => lcm_dvd_from r _ (Nat.lcm_dvd h (hq p List.mem_cons_self)) fun q h' => hq q (List.mem_cons_of_mem _ h')
theorem items_sD (ps : Sh) : itemsI (sD ps) = some (ps.map fun q => .tuple [.int q.1, fr q.2]) := by
  have k := kK_ints (sk ps)
  simp only [itemsI, sD, k, if_true]
  congr 1
  simp only [sk, List.map_map]
  rfl
theorem vals_sD (ps : Sh) : valsI (sD ps) = some (ps.map fun q => fr q.2) := by
  have k := kK_ints (sk ps)
  simp only [valsI, sD, k, if_true, vals_ints]
  simp only [sk, List.map_map]
  rfl
section
variable {G : Gb}
theorem spread_by_ok {M : Nat} (hM0 : 0 < M) (hM : M < 2 ^ 64) (ps : Sh) (hd : ∀ q ∈ ps, q.2.den ∣ M) (nd : (ps.map (·.1)).Nodup) (hb : ∀ q ∈ ps, q.2.num.natAbs < 2 ^ 100) (hs : Kn G "spread_of_weights" [wD (scW ps)] (spD (nrm (scW ps)))) : run G 1 4 K22.b_spread_by [sD ps] = some (spD (nrm (scW ps))) := by
  have key : forL (fun d ρ1 => (bindP (.v 2) d ρ1).bind fun ρ2 => evSs G (.cons (.asg (.v 1) (.bi .lcm (.cons (.v 1) (.cons (.ix (.v 2) (.int 1)) .nil)))) .nil) ρ2) (ps.map fun q => fr q.2) [.fz (sD ps), .fz (.int ((1 : Nat) : Int)), .un, .un] = some (.nx ((fun s : Nat × Sl => ([.fz (sD ps), .fz (.int (s.1 : Int)), s.2, .un] : En)) (ps.foldl (fun s q => (Nat.lcm s.1 q.2.den, Sl.fz (fr q.2))) (1, .un)))) := by
    refine forL_run (fun s : Nat × Sl => ([.fz (sD ps), .fz (.int (s.1 : Int)), s.2, .un] : En)) (fun bs s => s.1 ∣ M ∧ ∀ q ∈ bs, q.2.den ∣ M) (fun s q => (Nat.lcm s.1 q.2.den, Sl.fz (fr q.2))) (fun q qs s ⟨r1, r2⟩ => ⟨?_, Nat.lcm_dvd r1 (r2 q List.mem_cons_self), fun x h => r2 x (List.mem_cons_of_mem _ h)⟩) ps (1, .un) ⟨Nat.one_dvd M, hd⟩
    have l1 : s.1 < 2 ^ 64 := Nat.lt_of_le_of_lt (Nat.le_of_dvd hM0 r1) hM
    have l2 : q.2.den < 2 ^ 64 := Nat.lt_of_le_of_lt (Nat.le_of_dvd hM0 (r2 q List.mem_cons_self)) hM
    have hl : biD G.tups .lcm [.int (s.1 : Int), .int (q.2.den : Int)] = some (.int ((Nat.lcm s.1 q.2.den : Nat) : Int)) := by
      simp only [biD]
      rw [if_pos ⟨by simpa using l1, by simpa using l2⟩]
      simp
    simp [bindP, evSs, evS, ev, evs, En.get, fr1, hl]
  have e : ∀ (ps : Sh) (a : Nat) (sl : Sl), (ps.foldl (fun (s : Nat × Sl) q => (Nat.lcm s.1 q.2.den, Sl.fz (fr q.2))) (a, sl)).1 = ps.foldl (fun a q => Nat.lcm a q.2.den) a := by
    intro ps
    induction ps with
    | nil => intro a sl; rfl
    | cons z r ih => intro a sl; exact ih _ _
  generalize hst : ps.foldl (fun (s : Nat × Sl) q => (Nat.lcm s.1 q.2.den, Sl.fz (fr q.2))) (1, Sl.un) = st at key
  have e1 : st.1 = lcmS ps := by rw [← hst, e]; rfl
  have hL : lcmS ps ∣ M := lcm_dvd_from ps 1 (Nat.one_dvd M) hd
  have hL64 : lcmS ps < 2 ^ 64 := Nat.lt_of_le_of_lt (Nat.le_of_dvd hM0 hL) hM
  have k := compDK_new (T := G.tups) (f := stepDK [3, 2] (.cons (.v 3) (.cons (.v 2) .nil)) (fun ρ1 => evC G .non ρ1) (fun ρ1 => ev G (.v 3) ρ1) (fun ρ1 => ev G (.op .mul (.ix (.v 2) (.int 0)) (.op .fdiv (.v 1) (.ix (.v 2) (.int 1)))) ρ1) [.fz (sD ps), .fz (.int (lcmS ps : Int)), st.2, .un]) (g := fun q : Int × Rat => .tuple [.int q.1, fr q.2]) (u := fun q : Int × Rat => some (q.1, PyData.int (q.2.num * ((lcmS ps : Int) / (q.2.den : Int))))) ps [] (fun q hq => by
    have hdv : opD .fdiv (.int (lcmS ps : Int)) (.int (q.2.den : Int)) = some (.int ((lcmS ps : Int) / (q.2.den : Int))) := by
      have l2 : q.2.den < 2 ^ 64 := Nat.lt_of_le_of_lt (Nat.le_of_dvd hM0 (hd q hq)) hM
      exact if_pos ⟨by have := q.2.den_pos; omega, Nat.lt_trans (log_lt (n := 64) (by simpa using l2) (by decide)) (by decide)⟩
    have hml : opD .mul (.int q.2.num) (.int ((lcmS ps : Int) / (q.2.den : Int))) = some (.int (q.2.num * ((lcmS ps : Int) / (q.2.den : Int)))) := by
      refine mul_ok (n := 100) (m := 64) (hb q hq) ?_ (by decide) (by decide) (by decide)
      exact Nat.lt_of_le_of_lt (Int.natAbs_ediv_le_natAbs _ _) (by simpa using hL64)
    simp [stepDK, bindP, unpD, wipeE, evC, ev, En.get, fr0, fr1, hdv, hml, kd])
  have fm : ps.filterMap (fun q : Int × Rat => some (q.1, PyData.int (q.2.num * ((lcmS ps : Int) / (q.2.den : Int))))) = wk (scW ps) := by
    unfold wk scW
    rw [List.map_map, ← List.filterMap_eq_map]
    rfl
  rw [fm] at k
  have k := k (by
    simp only [List.nil_append, wk_keys, scW, List.map_map]
    exact nd)
  refine run_of (ρ := [.fz (sD ps), .un, .un, .un]) rfl rfl ?_
  unfold K22.b_spread_by
  rw [evSs_nx (ρ' := [.fz (sD ps), .fz (.int ((1 : Nat) : Int)), .un, .un]) rfl]
  have hv : evI G (.vals (.v 0)) [.fz (sD ps), .fz (.int ((1 : Nat) : Int)), .un, .un] = some (ps.map fun q => fr q.2) := vals_sD ps
  rw [evSs_nx (evS_for hv key)]
  simp only [e1]
  have hit : evI G (.items (.v 0)) [.fz (sD ps), .fz (.int (lcmS ps : Int)), st.2, .un] = some (ps.map fun q => .tuple [.int q.1, fr q.2]) := items_sD ps
  refine evSs_rt ?_
  show (ev G (.call _ _) _).map Out.rt = _
  rw [ev_call (ds := [wD (scW ps)]) (by
    unfold evs
    rw [ev_dc hit k]
    rfl) hs]
  rfl
end
end PL


set_option Elab.async false
set_option linter.all false
set_option maxRecDepth 100000
/-! MK: a spread hangs on its shares alone. -/
namespace PL
open PySem
def valS (ps : Sh) (k : Int) : Rat := (ps.lookup k).getD 0
theorem den_mul (q : Rat) : (q.den : Rat) * q = (q.num : Rat) := by
  have h : mkRat q.num q.den = q := Rat.mkRat_self q
  have hd : (q.den : Rat) ≠ 0 := by exact_mod_cast q.den_nz
  have e : (q.num : Rat) / (q.den : Rat) = q := by rw [← Rat.mkRat_eq_div]; exact h
  calc (q.den : Rat) * q = (q.den : Rat) * ((q.num : Rat) / (q.den : Rat)) := by rw [e]
    _ = (q.num : Rat) := by grind
theorem lcmS_pos (ps : Sh) : 0 < lcmS ps := by
  have : ∀ (ps : Sh) (a : Nat), 0 < a → 0 < ps.foldl (fun a q => Nat.lcm a q.2.den) a := by
    intro ps
    induction ps with
    | nil => intro a h; exact h
    | cons q r ih => intro a h; exact ih _ (Nat.lcm_pos h q.2.den_pos)
  exact this ps 1 (by decide)
theorem scale_one (q : Rat) {L : Nat} (h : q.den ∣ L) : ((q.num * ((L : Int) / (q.den : Int)) : Int) : Rat) = (L : Rat) * q := by
  obtain ⟨t, e⟩ := h
  subst e
  have hd : (q.den : Int) ≠ 0 := by exact_mod_cast q.den_nz
  rw [Int.natCast_mul, Int.mul_ediv_cancel_left _ hd]
  have := den_mul q
  push_cast
  grind
theorem scW_val (ps : Sh) (k : Int) : ((valW (scW ps) k : Int) : Rat) = (lcmS ps : Rat) * valS ps k := by
  have key : ∀ l : Sh, (∀ q ∈ l, q.2.den ∣ lcmS ps) → (((((l.map fun q => (q.1, q.2.num * ((lcmS ps : Int) / (q.2.den : Int)))).lookup k).getD 0 : Int)) : Rat) = (lcmS ps : Rat) * (l.lookup k).getD 0 := by
    intro l
    induction l with
    | nil => intro _; simp
    | cons q r ih =>
      intro h
      obtain ⟨j, p⟩ := q
      rw [List.map_cons, List.lookup_cons, List.lookup_cons]
      by_cases e : k == j
      · simp only [e, Option.getD_some]
        exact scale_one p (h (j, p) List.mem_cons_self)
      · simp only [e]
        exact ih fun q hq => h q (List.mem_cons_of_mem _ hq)
  exact key ps (lcm_from ps 1).2
/-- shares in the same proportions make the same spread -/
theorem spS_same {ps ps' : Sh} (nd : (ps.map (·.1)).Nodup) (nd' : (ps'.map (·.1)).Nodup) (h : ∀ k, valS ps k = valS ps' k) : nrm (scW ps) = nrm (scW ps') := by
  refine nrm_same (c := lcmS ps') (c' := lcmS ps) ?_ ?_ (lcmS_pos ps') (lcmS_pos ps) fun k => ?_
  · simp only [scW, List.map_map]; exact nd
  · simp only [scW, List.map_map]; exact nd'
  · have h1 := scW_val ps k
    have h2 := scW_val ps' k
    have hk := h k
    have e : (((lcmS ps' : Int) * valW (scW ps) k : Int) : Rat) = (((lcmS ps : Int) * valW (scW ps') k : Int) : Rat) := by
      push_cast
      rw [h1, h2, hk]
      grind
    exact_mod_cast e
end PL


set_option Elab.async false
set_option linter.all false
set_option maxRecDepth 100000
/-! ML: the chances of the spread that weights make. -/
namespace PL
open PySem
theorem lookup_fn (f : Int → Int) (k : Int) : ∀ l : List Int, (l.map fun k => (k, f k)).lookup k = if k ∈ l then some (f k) else none
  | [] => rfl
  | a :: r => by
    rw [List.map_cons, List.lookup_cons]
    by_cases e : k = a
    · subst e; simp
    · have e' : (k == a) = false := beq_eq_false_iff_ne.mpr e
      simp only [e', List.mem_cons, e, false_or]
      exact lookup_fn f k r
theorem sum_perm {l l' : List Int} (h : l.Perm l') : l.sum = l'.sum := by
  induction h with
  | nil => rfl
  | cons x _ ih => simp [ih]
  | swap x y l => simp; omega
  | trans _ _ h1 h2 => rw [h1, h2]
theorem sum_mul (g : Int) : ∀ l : List Int, (l.map fun z => g * z).sum = g * l.sum
  | [] => by simp
  | a :: r => by simp only [List.map_cons, List.sum_cons, sum_mul g r, Int.mul_add]
theorem tot_pos_of_nn : ∀ {w : Wt}, (∀ q ∈ w, 0 ≤ q.2) → tot (posW w) = tot w
  | [], _ => rfl
  | q :: r, h => by
    have ih := tot_pos_of_nn (w := r) fun x hx => h x (List.mem_cons_of_mem _ hx)
    have hq := h q List.mem_cons_self
    by_cases hp : 0 < q.2
    · have e : posW (q :: r) = q :: posW r := by simp [posW, hp]
      rw [e]
      simp only [tot, List.map_cons, List.sum_cons] at ih ⊢
      rw [ih]
    · have e : posW (q :: r) = posW r := by simp [posW, hp]
      rw [e, ih]
      simp only [tot, List.map_cons, List.sum_cons]
      omega
theorem tot_nrm {w : Wt} (nd : (w.map (·.1)).Nodup) (nn : ∀ q ∈ w, 0 ≤ q.2) : (gcdL ((posW w).map (·.2)) : Int) * tot (nrm w) = tot w := by
  rw [← tot_pos_of_nn nn]
  unfold tot
  rw [← sum_mul, List.map_map]
  have e : (nrm w).map ((fun z => (gcdL ((posW w).map (·.2)) : Int) * z) ∘ fun q => q.2) = (nrm w).map (fun q => valW w q.1) := List.map_congr_left fun q hq => (mem_nrm nd hq).2.2.1
  rw [e]
  have e2 : (nrm w).map (fun q => valW w q.1) = (sortI ((posW w).map (·.1))).map (valW w) := by
    rw [← nrm_keys, List.map_map]
    rfl
  rw [e2, pos_vals nd]
  exact sum_perm ((sortI_perm _).map _)
theorem val_nrm {w : Wt} (nd : (w.map (·.1)).Nodup) (nn : ∀ q ∈ w, 0 ≤ q.2) (k : Int) : (gcdL ((posW w).map (·.2)) : Int) * valW (nrm w) k = valW w k := by
  have hv0 : 0 ≤ valW w k := by
    unfold valW
    cases e : w.lookup k with
    | none => simp
    | some v => exact nn (k, v) ((lookup_mem_iff nd).mp e)
  by_cases hk : k ∈ (posW w).map (·.1)
  · have hs : k ∈ sortI ((posW w).map (·.1)) := (sortI_perm _).mem_iff.mpr hk
    have : (k, valW (nrm w) k) ∈ nrm w := by
      have e : valW (nrm w) k = valW (posW w) k / (gcdL ((posW w).map (·.2)) : Int) := by
        unfold valW nrm
        rw [lookup_fn (fun k => valW (posW w) k / (gcdL ((posW w).map (·.2)) : Int)), if_pos hs]
        rfl
      rw [e]
      unfold nrm
      exact List.mem_map.mpr ⟨k, hs, rfl⟩
    exact (mem_nrm nd this).2.2.1
  · have hs : ¬ k ∈ sortI ((posW w).map (·.1)) := fun h => hk ((sortI_perm _).mem_iff.mp h)
    have e : valW (nrm w) k = 0 := by
      unfold valW nrm
      rw [lookup_fn (fun k => valW (posW w) k / (gcdL ((posW w).map (·.2)) : Int)), if_neg hs]
      rfl
    have : ¬ 0 < valW w k := fun h => hk ((key_pos nd).mpr h)
    rw [e]
    omega
/-- the chances -/
theorem pr_nrm {w : Wt} (nd : (w.map (·.1)).Nodup) (nn : ∀ q ∈ w, 0 ≤ q.2) (hp : ∃ q ∈ w, 0 < q.2) (k : Int) : pr (nrm w) k = (valW w k : Rat) / (tot w : Rat) := by
  obtain ⟨q0, h1, h2⟩ := hp
  have g0 : 0 < gcdL ((posW w).map (·.2)) := gcdL_pos (List.mem_map_of_mem (mem_posW.mpr ⟨h1, h2⟩)) (by omega)
  have t1 := tot_nrm nd nn
  have v1 := val_nrm nd nn k
  have ne : nrm w ≠ [] := by
    intro e
    have := nrm_keys w
    rw [e] at this
    have hl := congrArg List.length this
    rw [(sortI_perm _).length_eq] at hl
    have h3 := List.length_pos_of_mem (List.mem_map_of_mem (f := Prod.fst) (mem_posW.mpr ⟨h1, h2⟩))
    simp at hl
    simp at h3
    omega
  have tp := tot_pos ne (fun q hq => by
    obtain ⟨_, a, b, c⟩ := mem_nrm nd hq
    have hc : (0 : Int) < (gcdL ((posW w).map (·.2)) : Int) := by omega
    rw [← b] at a
    have : 0 < q.2 := Int.lt_of_mul_lt_mul_left (a := (gcdL ((posW w).map (·.2)) : Int)) (by rw [Int.mul_zero]; exact a) (Int.le_of_lt hc)
    omega)
  unfold pr
  rw [Rat.mkRat_eq_div]
  have et : (((tot (nrm w)).toNat : Nat) : Rat) = ((tot (nrm w) : Int) : Rat) := by
    rw [← Rat.intCast_natCast, Int.toNat_of_nonneg (by omega)]
  rw [et, ← t1, ← v1]
  have hg : ((gcdL ((posW w).map (·.2)) : Nat) : Rat) ≠ 0 := by exact_mod_cast (Nat.ne_of_gt g0)
  have ht : ((tot (nrm w) : Int) : Rat) ≠ 0 := by exact_mod_cast (Int.ne_of_gt tp)
  push_cast
  generalize ((tot (nrm w) : Int) : Rat) = t at *
  generalize ((valW (nrm w) k : Int) : Rat) = v at *
  generalize ((gcdL ((posW w).map (·.2)) : Nat) : Rat) = g at *
  grind
end PL


set_option Elab.async false
set_option linter.all false
set_option maxRecDepth 100000
/-! MM: turned answers. -/
namespace PL
open PySem
/-- the shares of an answer turned -/
def tsh (m : Nat) (i : Int) (k : Rat) : Sh := (List.range m).map fun (j : Nat) => ((j : Int), if (j : Int) = i then k else (1 - k) * mkRat 1 (m - 1))
theorem rep_frac (r : Rat) : Nat.gcd r.num.natAbs r.den = 1 := r.reduced
section
variable {G : Gb}
theorem is_fraction_ok (hi : ∀ z, Kn G "is_integer" [.int z] (.bool true)) (r : Rat) : run G 1 2 K22.b_is_fraction [fr r] = some (.bool true) := by
  have ht : isiD "tuple" (fr r) = some true := rfl
  have hl : biD G.tups .len [fr r] = some (.int 2) := rfl
  have hne : cmpD G.tups .ne (.int 2) (.int 2) = some false := rfl
  obtain ⟨F, f1, f2⟩ := hi r.num
  obtain ⟨F', g1, g2⟩ := hi (r.den : Int)
  rw [f1] at g1
  cases g1
  have el : ev G (.lc [1] (.call "is_integer" (.cons (.v 1) .nil)) (.v 1) (.seq (.v 0)) .non) [.fz (fr r), .un] = some (.list [.bool true, .bool true]) := by
    refine ev_lc (ds := [.int r.num, .int (r.den : Int)]) rfl ?_
    simp [compL, stepL, bindP, wipeE, evC, ev, evs, En.get, f1, f2, g2]
  have eall : biD G.tups .all [.list [.bool true, .bool true]] = some (.bool true) := rfl
  have hge : cmpD G.tups .ge (.int (r.den : Int)) (.int 1) = some true := by
    have := r.den_pos
    simp [cmpD]
    omega
  have hg : biD G.tups .gcd [.int r.num, .int (r.den : Int)] = some (.int 1) := by
    simp [biD, rep_frac]
  have heq : cmpD G.tups .eq (.int 1) (.int 1) = some true := rfl
  refine run_of (ρ := [.fz (fr r), .un]) rfl rfl ?_
  unfold K22.b_is_fraction
  rw [evSs_nx (ρ' := [.fz (fr r), .un]) (by
    have ea : ev G (.bi .all (.cons (.lc [1] (.call "is_integer" (.cons (.v 1) .nil)) (.v 1) (.seq (.v 0)) .non) .nil)) [.fz (fr r), .un] = some (.bool true) := by
      have z : evs G (.cons (.lc [1] (.call "is_integer" (.cons (.v 1) .nil)) (.v 1) (.seq (.v 0)) .non) .nil) [.fz (fr r), .un] = some [.list [.bool true, .bool true]] := by
        unfold evs
        rw [el]
        rfl
      show (evs G _ _).bind _ = _
      rw [z]
      exact eall
    have eo : ev G (.or_ (.not_ (.isi (.v 0) "tuple")) (.or_ (.cmp .ne (.bi .len (.cons (.v 0) .nil)) (.int 2)) (.not_ (.bi .all (.cons (.lc [1] (.call "is_integer" (.cons (.v 1) .nil)) (.v 1) (.seq (.v 0)) .non) .nil))))) [.fz (fr r), .un] = some (.bool false) := by
      have e1 : ev G (.isi (.v 0) "tuple") [.fz (fr r), .un] = some (.bool true) := rfl
      have e2 : ev G (.cmp .ne (.bi .len (.cons (.v 0) .nil)) (.int 2)) [.fz (fr r), .un] = some (.bool false) := by simp [ev, evs, En.get, hl, hne]
      unfold ev
      rw [show ev G (.not_ (.isi (.v 0) "tuple")) [.fz (fr r), .un] = some (.bool false) from by unfold ev; rw [e1]; rfl]
      rw [show ev G (.or_ (.cmp .ne (.bi .len (.cons (.v 0) .nil)) (.int 2)) (.not_ (.bi .all (.cons (.lc [1] (.call "is_integer" (.cons (.v 1) .nil)) (.v 1) (.seq (.v 0)) .non) .nil)))) [.fz (fr r), .un] = some (.bool false) from by
        unfold ev
        rw [e2, show ev G (.not_ (.bi .all (.cons (.lc [1] (.call "is_integer" (.cons (.v 1) .nil)) (.v 1) (.seq (.v 0)) .non) .nil))) [.fz (fr r), .un] = some (.bool false) from by unfold ev; rw [ea]; rfl]
        rfl]
      rfl
    unfold evS
    rw [eo]
    rfl)]
  refine evSs_rt ?_
  simp [evS, ev, evs, En.get, asB, fr0, fr1, hge, hg, heq]
end
end PL


set_option Elab.async false
set_option linter.all false
set_option maxRecDepth 100000
/-! MP: tools: calls by value, steps, dicts with numbers as keys that are put into. -/
namespace PL
open PySem
def ap (G : Gb) (f : Str) (as : List D) : Option D := (G.fns f).bind fun F => F as
theorem Kn.ap {G : Gb} {f : Str} {as : List D} {r : D} (h : Kn G f as r) : ap G f as = some r := by
  obtain ⟨F, h1, h2⟩ := h
  simp [PL.ap, h1, h2]
theorem kn_of {G : Gb} {f : Str} {as : List D} {r : D} (h : ap G f as = some r) : Kn G f as r := by
  unfold PL.ap at h
  cases e : G.fns f with
  | none => rw [e] at h; cases h
  | some F => rw [e] at h; exact ⟨F, e, h⟩
section
variable {G : Gb} {ρ : En}
theorem xcall {f : Str} {as : Exs} : ev G (.call f as) ρ = (evs G as ρ).bind (ap G f) := by
  simp only [ev]
  unfold ap
  cases G.fns f <;> cases evs G as ρ <;> rfl
theorem xv {i : Nat} : ev G (.v i) ρ = ρ.get i := by simp only [ev]
theorem xnon : ev G .non ρ = some .none := by simp only [ev]
theorem xbl {b : Bool} : ev G (.bl b) ρ = some (.bool b) := by simp only [ev]
theorem xint {z : Int} : ev G (.int z) ρ = some (.int z) := by simp only [ev]
theorem xstr {x : Str} : ev G (.str x) ρ = some (.str x) := by simp only [ev]
theorem xg {x : Str} : ev G (.g x) ρ = G.cst x := by simp only [ev]
theorem xop {o : Op2} {a b : Ex} : ev G (.op o a b) ρ = (ev G a ρ).bind fun x => (ev G b ρ).bind fun y => opD o x y := by simp only [ev]
theorem xcmp {c : Cp} {a b : Ex} : ev G (.cmp c a b) ρ = (ev G a ρ).bind fun x => (ev G b ρ).bind fun y => (cmpD G.tups c x y).map PyData.bool := by simp only [ev]
theorem xchain {c1 c2 : Cp} {a b d : Ex} : ev G (.chain c1 c2 a b d) ρ = (ev G a ρ).bind fun x => (ev G b ρ).bind fun y => (cmpD G.tups c1 x y).bind fun r => if r = true then (ev G d ρ).bind fun z => (cmpD G.tups c2 y z).map PyData.bool else some (.bool false) := by simp only [ev]
theorem xisN {a : Ex} : ev G (.isN a) ρ = (ev G a ρ).map fun x => .bool (isNo x) := by simp only [ev]
theorem xnotN {a : Ex} : ev G (.notN a) ρ = (ev G a ρ).map fun x => .bool (!isNo x) := by simp only [ev]
theorem xand {a b : Ex} : ev G (.and_ a b) ρ = (asB (ev G a ρ)).bind fun x => if x = true then (asB (ev G b ρ)).map PyData.bool else some (.bool false) := by simp only [ev]
theorem xor {a b : Ex} : ev G (.or_ a b) ρ = (asB (ev G a ρ)).bind fun x => if x = true then some (.bool true) else (asB (ev G b ρ)).map PyData.bool := by simp only [ev]
theorem xnot {a : Ex} : ev G (.not_ a) ρ = (asB (ev G a ρ)).map fun x => .bool (!x) := by simp only [ev]
theorem xite {c a b : Ex} : ev G (.ite c a b) ρ = (asB (ev G c ρ)).bind fun x => if x = true then ev G a ρ else ev G b ρ := by simp only [ev]
theorem xbi {f : Bi} {as : Exs} : ev G (.bi f as) ρ = (evs G as ρ).bind (biD G.tups f) := by simp only [ev]
theorem xisi {a : Ex} {t : String} : ev G (.isi a t) ρ = (ev G a ρ).bind fun x => (isiD t x).map PyData.bool := by simp only [ev]
theorem xtup {as : Exs} : ev G (.tup as) ρ = (evs G as ρ).map PyData.tuple := by simp only [ev]
theorem xlst {as : Exs} : ev G (.lst as) ρ = (evs G as ρ).map PyData.list := by simp only [ev]
theorem xix {a b : Ex} : ev G (.ix a b) ρ = (ev G a ρ).bind fun x => (ev G b ρ).bind fun y => ixD G.tups x y := by simp only [ev]
theorem xsl {a : Ex} {lo hi : Ox} : ev G (.sl a lo hi) ρ = (ev G a ρ).bind fun x => (evO G lo ρ).bind fun l => (evO G hi ρ).bind fun h => slD x l h := by simp only [ev]
theorem xrev {a : Ex} : ev G (.rev a) ρ = (ev G a ρ).bind revD := by simp only [ev]
theorem xget {a k d : Ex} : ev G (.get a k d) ρ = (ev G a ρ).bind fun x => (ev G k ρ).bind fun y => (ev G d ρ).bind fun z => dget G.tups x y z := by simp only [ev]
theorem xlvals {a : Ex} : ev G (.lvals a) ρ = (ev G a ρ).bind lvalsI := by simp only [ev]
theorem xoget {i : Nat} {k d : Ex} : ev G (.oget i k d) ρ = (ρ.own i).bind fun x => (ev G k ρ).bind fun y => (ev G d ρ).bind fun z => dget G.tups x y z := by simp only [ev]
theorem xolen {i : Nat} : ev G (.olen i) ρ = (ρ.own i).bind olenD := by simp only [ev]
end
theorem b_some {α β : Type} (a : α) (f : α → Option β) : (some a).bind f = f a := rfl

/-! ### putting -/
def putI {α : Type} (l : List (Int × α)) (k : Int) (v : α) : List (Int × α) := if k ∈ l.map (·.1) then l.map (fun p => if p.1 = k then (p.1, v) else p) else l ++ [(k, v)]
theorem putI_map {α β : Type} (f : α → β) (l : List (Int × α)) (k : Int) (v : α) : (putI l k v).map (fun q => (q.1, f q.2)) = putI (l.map fun q => (q.1, f q.2)) k (f v) := by
  have e : (l.map fun q => (q.1, f q.2)).map (·.1) = l.map (·.1) := by rw [List.map_map]; rfl
  unfold putI
  rw [e]
  by_cases h : k ∈ l.map (·.1)
  · rw [if_pos h, if_pos h, List.map_map, List.map_map]
    refine List.map_congr_left fun p _ => ?_
    simp only [Function.comp]
    by_cases hp : p.1 = k
    · simp [hp]
    · simp [hp]
  · rw [if_neg h, if_neg h, List.map_append]
    rfl
theorem putD_ints {T : List D} (l : List (Int × D)) (k : Int) (v : D) : putD T (l.map kd) (.int k) (.k (.inl k)) v = (putI l k v).map kd := by
  by_cases h : k ∈ l.map (·.1)
  · unfold putD putI
    rw [any_ints, decide_eq_true h, if_pos rfl, if_pos h, List.map_map, List.map_map]
    refine List.map_congr_left fun p _ => ?_
    simp only [Function.comp, kd, kdOf, Option.some.injEq, Kd.k.injEq, Sum.inl.injEq]
    by_cases hp : p.1 = k
    · simp [hp]
    · simp [hp]
  · rw [put_new h]
    unfold putI
    rw [if_neg h]
theorem putI_keys {α : Type} (l : List (Int × α)) (k : Int) (v : α) : (putI l k v).map (·.1) = if k ∈ l.map (·.1) then l.map (·.1) else l.map (·.1) ++ [k] := by
  unfold putI
  by_cases h : k ∈ l.map (·.1)
  · rw [if_pos h, if_pos h, List.map_map]
    refine List.map_congr_left fun p _ => ?_
    simp only [Function.comp]
    by_cases hp : p.1 = k <;> simp [hp]
  · rw [if_neg h, if_neg h, List.map_append]
    rfl
theorem putI_nd {α : Type} {l : List (Int × α)} (nd : (l.map (·.1)).Nodup) (k : Int) (v : α) : ((putI l k v).map (·.1)).Nodup := by
  rw [putI_keys]
  by_cases h : k ∈ l.map (·.1)
  · rw [if_pos h]; exact nd
  · rw [if_neg h, List.nodup_append]
    refine ⟨nd, by simp, fun a ha b hb => ?_⟩
    rw [List.mem_singleton] at hb
    subst hb
    exact fun e => h (e ▸ ha)
theorem putI_mem_key {α : Type} {l : List (Int × α)} {k j : Int} {v : α} : j ∈ (putI l k v).map (·.1) ↔ j = k ∨ j ∈ l.map (·.1) := by
  rw [putI_keys]
  by_cases h : k ∈ l.map (·.1)
  · rw [if_pos h]
    exact ⟨.inr, fun e => e.elim (fun e => e ▸ h) id⟩
  · rw [if_neg h, List.mem_append, List.mem_singleton]
    exact or_comm
theorem putI_lookup {α : Type} (k : Int) (v : α) (j : Int) : ∀ l : List (Int × α), (putI l k v).lookup j = if j = k then some v else l.lookup j := by
  have key1 : ∀ l : List (Int × α), (l.map (fun p => if p.1 = k then (p.1, v) else p)).lookup j = if j = k then (if k ∈ l.map (·.1) then some v else none) else l.lookup j := by
    intro l
    induction l with
    | nil => simp
    | cons p r ih =>
      obtain ⟨a, b⟩ := p
      rw [List.map_cons]
      by_cases ha : a = k
      · simp only [ha, if_true, List.lookup_cons]
        by_cases hj : j = k
        · simp [hj]
        · have : (j == k) = false := beq_eq_false_iff_ne.mpr hj
          simp only [this, hj, if_false]
          rw [ih, if_neg hj]
      · simp only [ha, if_false, List.lookup_cons]
        by_cases hj : j = k
        · have : (j == a) = false := beq_eq_false_iff_ne.mpr (by omega)
          simp only [this]
          rw [if_pos hj] at ih ⊢
          have hk : (k ∈ List.map (·.1) ((a, b) :: r)) ↔ k ∈ List.map (·.1) r := by
            rw [List.map_cons, List.mem_cons]
            exact ⟨fun h => h.resolve_left fun e => ha e.symm, .inr⟩
          by_cases z : k ∈ r.map (·.1)
          · rw [if_pos (hk.mpr z)]
            rw [if_pos z] at ih
            exact ih
          · rw [if_neg fun h => z (hk.mp h)]
            rw [if_neg z] at ih
            exact ih
        · by_cases hja : j = a
          · simp [hja, ha]
          · have : (j == a) = false := beq_eq_false_iff_ne.mpr hja
            simp only [this, if_neg hj]
            rw [if_neg hj] at ih
            exact ih
  have key2 : ∀ l : List (Int × α), k ∉ l.map (·.1) → (l ++ [(k, v)]).lookup j = if j = k then some v else l.lookup j := by
    intro l
    induction l with
    | nil =>
      intro _
      simp only [List.nil_append, List.lookup_cons, List.lookup_nil]
      by_cases hj : j = k
      · simp [hj]
      · simp [beq_eq_false_iff_ne.mpr hj, hj]
    | cons p r ih =>
      intro h
      obtain ⟨a, b⟩ := p
      rw [List.map_cons, List.mem_cons, not_or] at h
      rw [List.cons_append, List.lookup_cons, List.lookup_cons, ih h.2]
      by_cases hja : j = a
      · have : j ≠ k := by have := h.1; simp only at this; omega
        simp [hja, this]
        intro e; omega
      · have : (j == a) = false := beq_eq_false_iff_ne.mpr hja
        simp only [this]
  intro l
  unfold putI
  by_cases h : k ∈ l.map (·.1)
  · rw [if_pos h, key1, if_pos h]
  · rw [if_neg h, key2 l h]
theorem oget_ints {T : List D} (l : List (Int × D)) (k : Int) (z : D) : dget T (.dict (l.map kd)) (.int k) z = some ((l.lookup k).getD z) := by
  simp only [dget, getK_ints, Option.map_some]
theorem dput_ints {T : List D} {l : List (Int × D)} (h : l.length ≤ 1000) (k : Int) (d : D) : dputD T (.dict (l.map kd)) (.int k) d = some (.dict ((putI l k d).map kd)) := by
  unfold dputD
  simp only [keyK_ints, Option.bind_some, List.length_map]
  rw [if_pos (by unfold szOk sizeLine; exact decide_eq_true (by omega)), putD_ints]
theorem len_of_nd : ∀ (n : Nat) {l : List Int}, l.Nodup → (∀ k ∈ l, 0 ≤ k ∧ k < n) → l.length ≤ n
  | 0, l, _, hb => by
    cases l with
    | nil => simp
    | cons a r => have := hb a List.mem_cons_self; omega
  | n + 1, l, nd, hb => by
    by_cases h : (n : Int) ∈ l
    · have h1 := len_of_nd n (nd.erase (n : Int)) fun k hk => by
        obtain ⟨h2, h3⟩ := (List.Nodup.mem_erase_iff nd).mp hk
        have := hb k h3
        omega
      rw [List.length_erase_of_mem h] at h1
      omega
    · have h1 := len_of_nd n nd fun k hk => by
        have := hb k hk
        have : k ≠ (n : Int) := fun e => h (e ▸ hk)
        omega
      omega
theorem len60 {l : List Int} (nd : l.Nodup) (hb : ∀ k : Int, k ∈ l → -30 ≤ k ∧ k < 30) : l.length ≤ 60 := by
  have h := len_of_nd 60 (l := l.map fun k => k + 30) (by
    rw [List.Nodup, List.pairwise_map]
    exact List.Pairwise.imp (fun h e => h (by omega)) nd) (fun k hk => by
    obtain ⟨x, hx, e⟩ := List.mem_map.mp hk
    have := hb x hx
    omega)
  simpa using h
end PL


set_option Elab.async false
set_option linter.all false
set_option maxRecDepth 100000
set_option exponentiation.threshold 20000
/-! MQ: fractions whose denominators divide a number; sums; shares added up. -/
namespace PL
open PySem
theorem dvd_of_int {r : Rat} {M : Nat} {z : Int} (h : r * (M : Rat) = (z : Rat)) : r.den ∣ M := by
  have e := den_mul r
  have h2 : ((r.num * (M : Int) : Int) : Rat) = ((r.den : Int) * z : Int) := by
    push_cast
    rw [← h, ← e]
    grind
  have h3 : r.num * (M : Int) = (r.den : Int) * z := by exact_mod_cast h2
  have h4 : r.den ∣ r.num.natAbs * M := by
    have := congrArg Int.natAbs h3
    rw [Int.natAbs_mul, Int.natAbs_mul] at this
    simp only [Int.natAbs_natCast] at this
    rw [this]
    exact Nat.dvd_mul_right _ _
  exact Nat.Coprime.dvd_of_dvd_mul_left (Nat.Coprime.symm r.reduced) h4
theorem int_of_dvd {r : Rat} {M : Nat} (h : r.den ∣ M) : ∃ z : Int, r * (M : Rat) = (z : Rat) := by
  obtain ⟨c, rfl⟩ := h
  refine ⟨r.num * c, ?_⟩
  have e := den_mul r
  push_cast
  rw [← e]
  grind
theorem dvd_add {r s : Rat} {M : Nat} (h1 : r.den ∣ M) (h2 : s.den ∣ M) : (r + s).den ∣ M := by
  obtain ⟨a, ha⟩ := int_of_dvd h1
  obtain ⟨b, hb⟩ := int_of_dvd h2
  refine dvd_of_int (z := a + b) ?_
  push_cast
  rw [← ha, ← hb]
  grind
theorem dvd_sub {r s : Rat} {M : Nat} (h1 : r.den ∣ M) (h2 : s.den ∣ M) : (r - s).den ∣ M := by
  obtain ⟨a, ha⟩ := int_of_dvd h1
  obtain ⟨b, hb⟩ := int_of_dvd h2
  refine dvd_of_int (z := a - b) ?_
  push_cast
  rw [← ha, ← hb]
  grind
theorem dvd_mul {r s : Rat} {A B : Nat} (h1 : r.den ∣ A) (h2 : s.den ∣ B) : (r * s).den ∣ A * B := by
  obtain ⟨a, ha⟩ := int_of_dvd h1
  obtain ⟨b, hb⟩ := int_of_dvd h2
  refine dvd_of_int (z := a * b) ?_
  push_cast
  rw [← ha, ← hb]
  grind
theorem dvd_zero (M : Nat) : (0 : Rat).den ∣ M := by show 1 ∣ M; exact Nat.one_dvd M
theorem dvd_one (M : Nat) : (1 : Rat).den ∣ M := by show 1 ∣ M; exact Nat.one_dvd M
theorem mkRat_dvd (a : Int) {b : Nat} (hb : 0 < b) : (mkRat a b).den ∣ b := by
  refine dvd_of_int (z := a) ?_
  rw [Rat.mkRat_eq_div]
  have : (b : Rat) ≠ 0 := by exact_mod_cast (Nat.ne_of_gt hb)
  grind
/-- from 0 to B, by M -/
structure Bd (M B : Nat) (r : Rat) : Prop where
  nn : 0 ≤ r
  le : r ≤ B
  dv : r.den ∣ M
theorem Bd.num {M B : Nat} {r : Rat} (h : Bd M B r) (hM : 0 < M) : r.num.natAbs ≤ B * M := by
  have e := den_mul r
  have hd : (0 : Rat) < (r.den : Rat) := by exact_mod_cast r.den_pos
  have hn : 0 ≤ r.num := Rat.num_nonneg.mpr h.nn
  have h1 : (r.num : Rat) ≤ (B : Rat) * (r.den : Rat) := by
    rw [← e, Rat.mul_comm]
    exact Rat.mul_le_mul_of_nonneg_right h.le (Rat.le_of_lt hd)
  have h2 : r.num ≤ (B : Int) * (r.den : Int) := by exact_mod_cast h1
  have h3 : r.den ≤ M := Nat.le_of_dvd hM h.dv
  have h4 : B * r.den ≤ B * M := Nat.mul_le_mul_left _ h3
  have h5 : ((r.num.natAbs : Nat) : Int) ≤ ((B * r.den : Nat) : Int) := by push_cast; omega
  omega
theorem Bd.sz {M B : Nat} {r : Rat} (h : Bd M B r) (hM : 0 < M) {n m : Nat} (h1 : M < 2 ^ n) (h2 : B < 2 ^ m) : Sz (m + n) r := by
  refine ⟨Nat.lt_of_le_of_lt (h.num hM) ?_, Nat.lt_of_lt_of_le (Nat.lt_of_le_of_lt (Nat.le_of_dvd hM h.dv) h1) (Nat.pow_le_pow_right (by decide) (by omega))⟩
  rw [Nat.pow_add]
  exact Nat.mul_lt_mul'' h2 h1
theorem Bd.sm {M B : Nat} {r : Rat} (h : Bd M B r) (hM : 0 < M) (h1 : M < 2 ^ 64) (h2 : B < 2 ^ 20) : Sm r := (h.sz hM h1 h2).mono (by decide)
theorem Bd.mono {M M' B B' : Nat} {r : Rat} (h : Bd M B r) (h1 : M ∣ M') (h2 : B ≤ B') : Bd M' B' r := ⟨h.nn, Rat.le_trans h.le (by exact_mod_cast h2), Nat.dvd_trans h.dv h1⟩
theorem Bd.mul {A B C E : Nat} {r s : Rat} (h : Bd A C r) (k : Bd B E s) : Bd (A * B) (C * E) (r * s) := by
  refine ⟨Rat.mul_nonneg h.nn k.nn, ?_, dvd_mul h.dv k.dv⟩
  have h1 : r * s ≤ (C : Rat) * s := Rat.mul_le_mul_of_nonneg_right h.le k.nn
  have h2 : (C : Rat) * s ≤ (C : Rat) * (E : Rat) := Rat.mul_le_mul_of_nonneg_left k.le (by exact_mod_cast Nat.zero_le C)
  push_cast
  exact Rat.le_trans h1 h2
theorem bd0 (M B : Nat) : Bd M B 0 := ⟨by decide, by exact_mod_cast Nat.zero_le B, dvd_zero M⟩
theorem bd1 (M : Nat) : Bd M 1 1 := ⟨by decide, by decide, dvd_one M⟩
theorem sm0 : Sm (0 : Rat) := (bd0 1 0).sm (by decide) (by decide) (by decide)
theorem sm1 : Sm (1 : Rat) := (bd1 1).sm (by decide) (by decide) (by decide)
/-! ### sums -/
theorem sum_foldl (l : List Rat) (a : Rat) : l.foldl (· + ·) a = a + l.sum := by
  induction l generalizing a with
  | nil => simp [Rat.add_zero]
  | cons x r ih => rw [List.foldl_cons, ih, List.sum_cons]; grind
theorem sum_nn {l : List Rat} (h : ∀ r ∈ l, 0 ≤ r) : 0 ≤ l.sum := by
  induction l with
  | nil => simp
  | cons x r ih =>
    rw [List.sum_cons]
    have h1 := h x List.mem_cons_self
    have h2 := ih fun y hy => h y (List.mem_cons_of_mem _ hy)
    grind
theorem sum_dvd {M : Nat} {l : List Rat} (h : ∀ r ∈ l, r.den ∣ M) : l.sum.den ∣ M := by
  induction l with
  | nil => simpa using dvd_zero M
  | cons x r ih =>
    rw [List.sum_cons]
    exact dvd_add (h x List.mem_cons_self) (ih fun y hy => h y (List.mem_cons_of_mem _ hy))
theorem take_bd {M B : Nat} {l : List Rat} (h : ∀ r ∈ l, 0 ≤ r ∧ r.den ∣ M) (hs : l.sum ≤ B) (k : Nat) : Bd M B ((l.take k).foldl (· + ·) 0) := by
  have e : l.sum = (l.take k).sum + (l.drop k).sum := by
    conv => lhs; rw [← List.take_append_drop k l]
    rw [List.sum_append]
  have h1 : 0 ≤ (l.take k).sum := sum_nn fun r hr => (h r (List.mem_of_mem_take hr)).1
  have h2 : 0 ≤ (l.drop k).sum := sum_nn fun r hr => (h r (List.mem_of_mem_drop hr)).1
  rw [sum_foldl]
  have e0 : (0 : Rat) + (l.take k).sum = (l.take k).sum := by grind
  rw [e0]
  exact ⟨h1, by grind, sum_dvd fun r hr => (h r (List.mem_of_mem_take hr)).2⟩
theorem sum_mul_r (c : Rat) {α : Type} (f : α → Rat) (l : List α) : (l.map fun x => c * f x).sum = c * (l.map f).sum := by
  induction l with
  | nil => simp
  | cons x r ih => simp only [List.map_cons, List.sum_cons, ih]; grind
theorem sum_add_r {α : Type} (f g : α → Rat) (l : List α) : (l.map fun x => f x + g x).sum = (l.map f).sum + (l.map g).sum := by
  induction l with
  | nil => simp [Rat.add_zero]
  | cons x r ih => simp only [List.map_cons, List.sum_cons, ih]; grind
theorem sum_le_r {α : Type} {f g : α → Rat} {l : List α} (h : ∀ x ∈ l, f x ≤ g x) : (l.map f).sum ≤ (l.map g).sum := by
  induction l with
  | nil => simp
  | cons x r ih =>
    simp only [List.map_cons, List.sum_cons]
    have h1 := h x List.mem_cons_self
    have h2 := ih fun y hy => h y (List.mem_cons_of_mem _ hy)
    grind
theorem sum_swap {α β : Type} (f : α → β → Rat) (l : List α) (m : List β) : (l.map fun x => (m.map fun y => f x y).sum).sum = (m.map fun y => (l.map fun x => f x y).sum).sum := by
  induction l with
  | nil =>
    simp only [List.map_nil, List.sum_nil]
    induction m with
    | nil => simp
    | cons y r ih => simp only [List.map_cons, List.sum_cons]; rw [← ih]; grind
  | cons x r ih =>
    simp only [List.map_cons, List.sum_cons, ih]
    rw [← sum_add_r]
theorem sum_zero_r {α : Type} {f : α → Rat} {l : List α} (h : ∀ x ∈ l, f x = 0) : (l.map f).sum = 0 := by
  induction l with
  | nil => simp
  | cons x r ih =>
    simp only [List.map_cons, List.sum_cons, h x List.mem_cons_self, ih fun y hy => h y (List.mem_cons_of_mem _ hy)]
    grind
/-- the sum over the numbers below n -/
def smR (n : Nat) (f : Int → Rat) : Rat := ((List.range n).map fun j : Nat => f ((j : Int) - 30)).sum
theorem smR_add (n : Nat) (f g : Int → Rat) : smR n (fun j => f j + g j) = smR n f + smR n g := sum_add_r _ _ _
theorem smR_mul (n : Nat) (c : Rat) (f : Int → Rat) : smR n (fun j => c * f j) = c * smR n f := sum_mul_r c _ _
theorem smR_le {n : Nat} {f g : Int → Rat} (h : ∀ j : Int, -30 ≤ j → j < (n : Int) - 30 → f j ≤ g j) : smR n f ≤ smR n g := sum_le_r fun j hj => h _ (by omega) (by have := List.mem_range.mp hj; omega)
theorem smR_congr {n : Nat} {f g : Int → Rat} (h : ∀ j : Int, -30 ≤ j → j < (n : Int) - 30 → f j = g j) : smR n f = smR n g := by
  unfold smR
  congr 1
  exact List.map_congr_left fun j hj => h _ (by omega) (by have := List.mem_range.mp hj; omega)
theorem smR_succ (n : Nat) (f : Int → Rat) : smR (n + 1) f = smR n f + f ((n : Int) - 30) := by
  unfold smR
  rw [List.range_succ, List.map_append, List.sum_append]
  simp [Rat.add_zero]
theorem smR_swap (n m : Nat) (f : Int → Int → Rat) : smR n (fun i => smR m (fun j => f i j)) = smR m (fun j => smR n (fun i => f i j)) := sum_swap _ _ _
theorem smR_const (n : Nat) (c : Rat) : smR n (fun _ => c) = (n : Rat) * c := by
  induction n with
  | zero => simp [smR]
  | succ n ih => rw [smR_succ, ih]; push_cast; grind
theorem smR_one {n : Nat} (i : Int) (h0 : -30 ≤ i) (h1 : i < (n : Int) - 30) (a : Rat) : smR n (fun j => if j = i then a else 0) = a := by
  induction n with
  | zero => omega
  | succ n ih =>
    rw [smR_succ]
    by_cases h : i = (n : Int) - 30
    · subst h
      have : smR n (fun j => if j = (n : Int) - 30 then a else 0) = 0 := sum_zero_r fun j hj => by
        have := List.mem_range.mp hj
        simp only
        rw [if_neg (by omega)]
      rw [this, if_pos rfl]
      grind
    · rw [ih (by omega), if_neg (fun e => h e.symm)]
      grind
/-- a list's sum over keys, by key -/
theorem smR_keys {n : Nat} (c : Int → Int → Rat → Rat) : ∀ L : List (Int × Rat), (∀ q ∈ L, -30 ≤ q.1 ∧ q.1 < (n : Int) - 30) → smR n (fun k => (L.map fun q => if q.1 = k then q.2 else 0).sum) = (L.map (·.2)).sum
  | [], _ => by
    have : smR n (fun _ => (0 : Rat)) = 0 := by rw [smR_const]; grind
    simpa using this
  | q :: r, h => by
    have ih := smR_keys c r fun x hx => h x (List.mem_cons_of_mem _ hx)
    simp only [List.map_cons, List.sum_cons]
    rw [smR_add, ih]
    obtain ⟨h1, h2⟩ := h q List.mem_cons_self
    have : smR n (fun k => if q.1 = k then q.2 else 0) = q.2 := by
      rw [← smR_one q.1 h1 h2 q.2]
      exact smR_congr fun j _ _ => by
        by_cases e : q.1 = j
        · rw [if_pos e, if_pos e.symm]
          exact (smR_one q.1 h1 h2 q.2).symm ▸ rfl
        · rw [if_neg e, if_neg fun e' => e e'.symm]
    rw [this]
/-! ### shares added up -/
def totS (ps : Sh) : Rat := (ps.map (·.2)).sum
def addS (acc : Sh) (k : Int) (v : Rat) : Sh := putI acc k (valS acc k + v)
def adds (L : Sh) (acc : Sh) : Sh := L.foldl (fun a q => addS a q.1 q.2) acc
def sumAt (L : Sh) (k : Int) : Rat := (L.map fun q => if q.1 = k then q.2 else 0).sum
theorem valS_addS (acc : Sh) (k : Int) (v : Rat) (j : Int) : valS (addS acc k v) j = valS acc j + if k = j then v else 0 := by
  unfold addS
  by_cases h : j = k
  · subst h
    show ((putI acc j _).lookup j).getD 0 = _
    rw [putI_lookup, if_pos rfl, if_pos rfl]
    rfl
  · show ((putI acc k _).lookup j).getD 0 = _
    rw [putI_lookup, if_neg h, if_neg fun e => h e.symm]
    show valS acc j = _
    grind
theorem valS_cons (k : Int) (v : Rat) (r : Sh) (j : Int) : valS ((k, v) :: r) j = if j = k then v else valS r j := by
  unfold valS
  rw [List.lookup_cons]
  by_cases h : j = k
  · simp [h]
  · have : (j == k) = false := beq_eq_false_iff_ne.mpr h
    simp [this, h]
theorem valS_none {ps : Sh} {k : Int} (h : k ∉ ps.map (·.1)) : valS ps k = 0 := by
  induction ps with
  | nil => rfl
  | cons q r ih =>
    obtain ⟨a, b⟩ := q
    rw [List.map_cons, List.mem_cons, not_or] at h
    rw [valS_cons, if_neg h.1, ih h.2]
theorem totS_put {k : Int} {v : Rat} : ∀ {acc : Sh}, (acc.map (·.1)).Nodup → totS (putI acc k v) = totS acc - valS acc k + v := by
  intro acc nd
  unfold putI
  by_cases h : k ∈ acc.map (·.1)
  · rw [if_pos h]
    induction acc with
    | nil => cases h
    | cons q r ih =>
      obtain ⟨a, b⟩ := q
      rw [List.map_cons, List.nodup_cons] at nd
      rw [valS_cons]
      by_cases e : k = a
      · subst e
        have hr : r.map (fun p => if p.1 = k then (p.1, v) else p) = r := by
          conv => rhs; rw [← List.map_id r]
          refine List.map_congr_left fun p hp => ?_
          have hne : ¬ p.1 = k := fun e => nd.1 (show k ∈ r.map (·.1) from by rw [← e]; exact List.mem_map_of_mem (f := Prod.fst) hp)
          rw [if_neg hne]
          rfl
        simp only [List.map_cons, if_true, hr, totS, List.sum_cons]
        grind
      · have hk : k ∈ r.map (·.1) := by
          rcases List.mem_cons.mp h with z | z
          · exact absurd z e
          · exact z
        have ih := ih nd.2 hk
        simp only [List.map_cons, if_neg (fun z : a = k => e z.symm), if_neg e, totS, List.sum_cons] at ih ⊢
        rw [ih]
        grind
  · rw [if_neg h, valS_none h]
    unfold totS
    rw [List.map_append, List.sum_append]
    simp
    grind
theorem totS_addS {acc : Sh} (nd : (acc.map (·.1)).Nodup) (k : Int) (v : Rat) : totS (addS acc k v) = totS acc + v := by
  unfold addS
  rw [totS_put nd]
  grind
theorem addS_nd {acc : Sh} (nd : (acc.map (·.1)).Nodup) (k : Int) (v : Rat) : ((addS acc k v).map (·.1)).Nodup := putI_nd nd k _
theorem adds_nd : ∀ (L : Sh) {acc : Sh}, (acc.map (·.1)).Nodup → ((adds L acc).map (·.1)).Nodup
  | [], _, h => h
  | q :: r, _, h => adds_nd r (addS_nd h q.1 q.2)
theorem adds_keys {P : Int → Prop} : ∀ (L : Sh) {acc : Sh}, (∀ q ∈ L, P q.1) → (∀ k ∈ acc.map (·.1), P k) → ∀ k ∈ (adds L acc).map (·.1), P k
  | [], _, _, h => h
  | q :: r, acc, hL, h => adds_keys r (fun x hx => hL x (List.mem_cons_of_mem _ hx)) fun k hk => by
    have hk' : k = q.1 ∨ k ∈ acc.map (·.1) := putI_mem_key (v := valS acc q.1 + q.2).mp hk
    rcases hk' with e | e
    · subst e; exact hL q List.mem_cons_self
    · exact h k e
theorem adds_val : ∀ (L : Sh) (acc : Sh) (k : Int), valS (adds L acc) k = valS acc k + sumAt L k
  | [], acc, k => by
    show valS acc k = valS acc k + sumAt [] k
    simp [sumAt, Rat.add_zero]
  | q :: r, acc, k => by
    show valS (adds r (addS acc q.1 q.2)) k = _
    rw [adds_val r, valS_addS]
    simp only [sumAt, List.map_cons, List.sum_cons]
    grind
theorem adds_tot : ∀ (L : Sh) {acc : Sh}, (acc.map (·.1)).Nodup → totS (adds L acc) = totS acc + totS L
  | [], acc, _ => by
    show totS acc = totS acc + totS []
    simp [totS, Rat.add_zero]
  | q :: r, acc, nd => by
    show totS (adds r (addS acc q.1 q.2)) = _
    rw [adds_tot r (addS_nd nd _ _), totS_addS nd]
    simp only [totS, List.map_cons, List.sum_cons]
    grind
theorem valS_mem {ps : Sh} {k : Int} (h : k ∈ ps.map (·.1)) : (k, valS ps k) ∈ ps := by
  induction ps with
  | nil => cases h
  | cons q r ih =>
    obtain ⟨a, b⟩ := q
    rw [valS_cons]
    by_cases e : k = a
    · subst e; simp
    · rw [if_neg e]
      rcases List.mem_cons.mp h with z | z
      · exact absurd z e
      · exact List.mem_cons_of_mem _ (ih z)
theorem valS_of {P : Rat → Prop} {ps : Sh} (h : ∀ q ∈ ps, P q.2) (h0 : P 0) (k : Int) : P (valS ps k) := by
  by_cases hk : k ∈ ps.map (·.1)
  · exact h _ (valS_mem hk)
  · rw [valS_none hk]; exact h0
theorem putI_all {α : Type} {P : α → Prop} {l : List (Int × α)} {k : Int} {v : α} (h : ∀ q ∈ l, P q.2) (hv : P v) : ∀ q ∈ putI l k v, P q.2 := by
  intro q hq
  unfold putI at hq
  split at hq
  · obtain ⟨p, hp, e⟩ := List.mem_map.mp hq
    by_cases hk : p.1 = k
    · rw [if_pos hk] at e; subst e; exact hv
    · rw [if_neg hk] at e; subst e; exact h p hp
  · rcases List.mem_append.mp hq with z | z
    · exact h q z
    · rw [List.mem_singleton] at z; subst z; exact hv
theorem val_le_tot {ps : Sh} (nn : ∀ q ∈ ps, 0 ≤ q.2) (k : Int) : valS ps k ≤ totS ps := by
  induction ps with
  | nil => simp [valS, totS]
  | cons q r ih =>
    obtain ⟨a, b⟩ := q
    have h1 := nn (a, b) List.mem_cons_self
    have h2 := ih fun x hx => nn x (List.mem_cons_of_mem _ hx)
    have h3 : 0 ≤ totS r := sum_nn fun x hx => by
      obtain ⟨y, hy, e⟩ := List.mem_map.mp hx
      exact e ▸ nn y (List.mem_cons_of_mem _ hy)
    rw [valS_cons]
    simp only [totS, List.map_cons, List.sum_cons] at h2 h3 ⊢
    simp only at h1
    split <;> grind
end PL


set_option Elab.async false
set_option linter.all false
set_option maxRecDepth 100000
set_option exponentiation.threshold 20000
/-! MR: spreads by their chances. -/
namespace PL
open PySem
theorem nrm_self {w : Wt} (v : Vs w) : nrm w = w := by
  have nd : (w.map (·.1)).Nodup := v.inc.imp fun h => Int.ne_of_lt h
  have hp : posW w = w := List.filter_eq_self.mpr fun q hq => by have := v.pos q hq; exact decide_eq_true (by omega)
  have hs : sortI (w.map (·.1)) = w.map (·.1) := PySem.W.ksm_same (sortI_perm _) (sortI_sorted _) (v.inc.imp fun h => Int.le_of_lt h)
  unfold nrm
  rw [hp, v.gcd, hs, List.map_map]
  conv => rhs; rw [← List.map_id w]
  refine List.map_congr_left fun q hq => ?_
  obtain ⟨a, b⟩ := q
  simp only [Function.comp, id]
  unfold valW
  rw [(lookup_mem_iff nd).mpr hq]
  simp
theorem Vs.nd {w : Wt} (v : Vs w) : (w.map (·.1)).Nodup := v.inc.imp fun h => Int.ne_of_lt h
theorem Vs.tp {w : Wt} (v : Vs w) : 0 < tot w := tot_pos v.ne v.pos
theorem Vs.tn {w : Wt} (v : Vs w) : 0 < (tot w).toNat := by have := v.tp; omega
theorem Vs.tr {w : Wt} (v : Vs w) : (((tot w).toNat : Nat) : Rat) = ((tot w : Int) : Rat) := by
  rw [← Rat.intCast_natCast, Int.toNat_of_nonneg (by have := v.tp; omega)]
theorem pr_eq {w : Wt} (v : Vs w) (k : Int) : pr w k = (valW w k : Rat) / (tot w : Rat) := by
  unfold pr
  rw [Rat.mkRat_eq_div, v.tr]
theorem Vs.t0 {w : Wt} (v : Vs w) : ((tot w : Int) : Rat) ≠ 0 := by have := v.tp; exact_mod_cast (Int.ne_of_gt this)
theorem Vs.ext {w w' : Wt} (v : Vs w) (v' : Vs w') (h : ∀ k, pr w k = pr w' k) : w = w' := by
  rw [← nrm_self v, ← nrm_self v']
  refine nrm_same v.nd v'.nd (c := (tot w').toNat) (c' := (tot w).toNat) v'.tn v.tn fun k => ?_
  have hk := h k
  rw [pr_eq v, pr_eq v'] at hk
  have h1 := v.t0
  have h2 := v'.t0
  rw [Int.toNat_of_nonneg (Int.le_of_lt v'.tp), Int.toNat_of_nonneg (Int.le_of_lt v.tp)]
  have e : ((tot w' * valW w k : Int) : Rat) = ((tot w * valW w' k : Int) : Rat) := by
    push_cast
    generalize ((tot w : Int) : Rat) = a at *
    generalize ((tot w' : Int) : Rat) = b at *
    generalize ((valW w k : Int) : Rat) = c at *
    generalize ((valW w' k : Int) : Rat) = d at *
    grind
  exact_mod_cast e
/-- a spread over the numbers below 60, whose chances go into M -/
structure Sp (w : Wt) (M : Nat) : Prop where
  vs : Vs w
  ks : ∀ k : Int, k ∈ w.map (·.1) → -30 ≤ k ∧ k < 30
  dv : (tot w).toNat ∣ M
theorem Sp.mono {w : Wt} {M M' : Nat} (s : Sp w M) (h : M ∣ M') : Sp w M' := ⟨s.vs, s.ks, Nat.dvd_trans s.dv h⟩
theorem Sp.len {w : Wt} {M : Nat} (s : Sp w M) : w.length ≤ 60 := by
  have := len60 s.vs.nd s.ks
  simpa using this
theorem valW_none {w : Wt} {k : Int} (h : k ∉ w.map (·.1)) : valW w k = 0 := by
  unfold valW
  cases e : w.lookup k with
  | none => rfl
  | some v =>
    exfalso
    apply h
    clear h
    induction w with
    | nil => cases e
    | cons q r ih =>
      obtain ⟨a, b⟩ := q
      rw [List.lookup_cons] at e
      by_cases z : k = a
      · subst z; simp
      · have : (k == a) = false := beq_eq_false_iff_ne.mpr z
        rw [this] at e
        exact List.mem_cons_of_mem _ (ih e)
theorem pr_none {w : Wt} {k : Int} (h : k ∉ w.map (·.1)) : pr w k = 0 := by
  unfold pr
  rw [valW_none h]
  simp
theorem pr_mem {w : Wt} (v : Vs w) {q : Int × Int} (h : q ∈ w) : mkRat q.2 (tot w).toNat = pr w q.1 := by
  unfold pr valW
  rw [(lookup_mem_iff v.nd).mpr h]
  rfl
theorem div_pos' {a b : Rat} (ha : 0 < a) (hb : 0 < b) : 0 < a / b := by
  rw [Rat.lt_div_iff hb]
  grind
theorem pr_pos {w : Wt} (v : Vs w) {k : Int} (h : k ∈ w.map (·.1)) : 0 < pr w k := by
  obtain ⟨q, hq, e⟩ := List.mem_map.mp h
  subst e
  rw [← pr_mem v hq, Rat.mkRat_eq_div, v.tr]
  have h1 : (0 : Rat) < (tot w : Int) := by have := v.tp; exact_mod_cast this
  have h2 : (0 : Rat) < (q.2 : Int) := by have := v.pos q hq; exact_mod_cast (show (0 : Int) < q.2 by omega)
  exact div_pos' h2 h1
theorem pr_nn {w : Wt} (v : Vs w) (k : Int) : 0 ≤ pr w k := by
  by_cases h : k ∈ w.map (·.1)
  · exact Rat.le_of_lt (pr_pos v h)
  · rw [pr_none h]; decide
theorem pr_mem_iff {w : Wt} (v : Vs w) {k : Int} : k ∈ w.map (·.1) ↔ 0 < pr w k := by
  refine ⟨pr_pos v, fun h => Decidable.byContradiction fun n => ?_⟩
  rw [pr_none n] at h
  exact absurd h (by decide)
/-- the rows' chances -/
def rwS (w : Wt) : Sh := w.map fun q => (q.1, mkRat q.2 (tot w).toNat)
theorem rwS_keys (w : Wt) : (rwS w).map (·.1) = w.map (·.1) := by unfold rwS; rw [List.map_map]; rfl
theorem rwS_val (w : Wt) (k : Int) : valS (rwS w) k = pr w k := by
  have key : ∀ (l : Wt) (t : Nat), valS (l.map fun q => (q.1, mkRat q.2 t)) k = mkRat (valW l k) t := by
    intro l t
    induction l with
    | nil => simp [valS, valW]
    | cons q r ih =>
      obtain ⟨a, b⟩ := q
      rw [List.map_cons, valS_cons, ih]
      unfold valW
      rw [List.lookup_cons]
      by_cases h : k = a
      · simp [h]
      · have : (k == a) = false := beq_eq_false_iff_ne.mpr h
        simp [this, h]
  exact key w _
theorem rwS_tot {w : Wt} (v : Vs w) : totS (rwS w) = 1 := by
  have key : ∀ l : Wt, totS (l.map fun q => (q.1, mkRat q.2 (tot w).toNat)) = (tot l : Rat) / (tot w : Rat) := by
    intro l
    induction l with
    | nil =>
      simp only [List.map_nil, totS, tot, List.sum_nil]
      have := v.t0
      simp
      grind
    | cons q r ih =>
      have := v.t0
      have e1 : totS ((q :: r).map fun q => (q.1, mkRat q.2 (tot w).toNat)) = mkRat q.2 (tot w).toNat + totS (r.map fun q => (q.1, mkRat q.2 (tot w).toNat)) := by simp only [List.map_cons, totS, List.sum_cons]
      have e2 : tot (q :: r) = q.2 + tot r := by simp only [List.map_cons, tot, List.sum_cons]
      rw [e1, e2, ih, Rat.mkRat_eq_div, v.tr]
      push_cast
      grind
  unfold rwS
  rw [key]
  have := v.t0
  grind
theorem rwS_nn {w : Wt} (v : Vs w) : ∀ q ∈ rwS w, 0 ≤ q.2 := by
  intro q hq
  obtain ⟨p, hp, e⟩ := List.mem_map.mp hq
  subst e
  rw [pr_mem v hp]
  exact pr_nn v _
theorem pr_le {w : Wt} (v : Vs w) (k : Int) : pr w k ≤ 1 := by
  rw [← rwS_val, ← rwS_tot v]
  exact val_le_tot (rwS_nn v) k
theorem pr_bd {w : Wt} {M : Nat} (s : Sp w M) (k : Int) : Bd M 1 (pr w k) := ⟨pr_nn s.vs k, by simpa using pr_le s.vs k, Nat.dvd_trans (mkRat_dvd _ s.vs.tn) s.dv⟩
theorem pr_out {w : Wt} {M : Nat} (s : Sp w M) {k : Int} (h : ¬ (-30 ≤ k ∧ k < 30)) : pr w k = 0 := pr_none fun z => h (s.ks k z)
/-- a list of shares with keys once: its sum at a key -/
theorem sumAt_val {ps : Sh} (nd : (ps.map (·.1)).Nodup) (k : Int) : sumAt ps k = valS ps k := by
  induction ps with
  | nil => simp [sumAt, valS]
  | cons q r ih =>
    obtain ⟨a, b⟩ := q
    rw [List.map_cons, List.nodup_cons] at nd
    rw [valS_cons, ← ih nd.2]
    simp only [sumAt, List.map_cons, List.sum_cons]
    by_cases h : k = a
    · subst h
      have z : sumAt r k = 0 := by rw [ih nd.2]; exact valS_none nd.1
      simp only [sumAt] at z
      rw [z]
      simp
      grind
    · rw [if_neg h, if_neg fun e => h e.symm]
      grind
theorem pr_sum {w : Wt} {M : Nat} (s : Sp w M) : smR 60 (pr w) = 1 := by
  rw [← rwS_tot s.vs]
  unfold totS
  rw [← smR_keys (n := 60) (fun _ _ r => r) (rwS w) (fun q hq => s.ks q.1 (by rw [← rwS_keys]; exact List.mem_map_of_mem hq))]
  refine smR_congr fun j _ _ => ?_
  rw [← rwS_val, ← sumAt_val (by rw [rwS_keys]; exact s.vs.nd)]
  rfl
/-! ### weights make a spread -/
theorem nrm_sp {w : Wt} {M : Nat} (nd : (w.map (·.1)).Nodup) (ks : ∀ k : Int, k ∈ w.map (·.1) → -30 ≤ k ∧ k < 30) (nn : ∀ q ∈ w, 0 ≤ q.2) (tp : 0 < tot w) (dv : (tot w).toNat ∣ M) : Sp (nrm w) M ∧ (∀ k, pr (nrm w) k = (valW w k : Rat) / (tot w : Rat)) ∧ (∃ q ∈ w, 0 < q.2) := by
  have hl : w.length ≤ 60 := by simpa using len60 nd ks
  have hp : ∃ q ∈ w, 0 < q.2 := by
    refine Decidable.byContradiction fun h => ?_
    have : ∀ l : Wt, (∀ q ∈ l, q.2 ≤ 0) → tot l ≤ 0 := by
      intro l
      induction l with
      | nil => intro _; simp [tot]
      | cons q r ih =>
        intro h
        have h1 := h q List.mem_cons_self
        have h2 := ih fun x hx => h x (List.mem_cons_of_mem _ hx)
        simp only [tot, List.map_cons, List.sum_cons] at h2 ⊢
        omega
    have := this w fun q hq => by
      have : ¬ 0 < q.2 := fun z => h ⟨q, hq, z⟩
      omega
    omega
  have v := nrm_vs nd (by omega) hp
  refine ⟨⟨v, fun k hk => ?_, ?_⟩, pr_nrm nd nn hp, hp⟩
  · rw [nrm_keys] at hk
    have := (sortI_perm _).mem_iff.mp hk
    obtain ⟨q, hq, e⟩ := List.mem_map.mp this
    exact ks k (e ▸ List.mem_map_of_mem (mem_posW.mp hq).1)
  · have t := tot_nrm nd nn
    refine Nat.dvd_trans ?_ dv
    refine ⟨gcdL ((posW w).map (·.2)), ?_⟩
    have h1 := v.tp
    have h2 : ((tot w).toNat : Int) = tot w := Int.toNat_of_nonneg (by omega)
    have h3 : ((tot (nrm w)).toNat : Int) = tot (nrm w) := Int.toNat_of_nonneg (by omega)
    have : ((tot w).toNat : Int) = ((((tot (nrm w)).toNat * gcdL ((posW w).map (·.2)) : Nat)) : Int) := by
      push_cast
      rw [h2, h3, ← t, Int.mul_comm]
    exact_mod_cast this
/-- shares that make a spread -/
structure Pv (ps : Sh) (M : Nat) : Prop where
  nd : (ps.map (·.1)).Nodup
  ks : ∀ k : Int, k ∈ ps.map (·.1) → -30 ≤ k ∧ k < 30
  nn : ∀ q ∈ ps, 0 ≤ q.2
  dv : ∀ q ∈ ps, q.2.den ∣ M
  one : totS ps = 1
theorem tot_scW (ps : Sh) : ((tot (scW ps) : Int) : Rat) = (lcmS ps : Rat) * totS ps := by
  have key : ∀ l : Sh, (∀ q ∈ l, q.2.den ∣ lcmS ps) → ((tot (l.map fun q => (q.1, q.2.num * ((lcmS ps : Int) / (q.2.den : Int)))) : Int) : Rat) = (lcmS ps : Rat) * totS l := by
    intro l
    induction l with
    | nil => intro _; simp [tot, totS]
    | cons q r ih =>
      intro h
      have h1 := scale_one q.2 (h q List.mem_cons_self)
      have h2 := ih fun x hx => h x (List.mem_cons_of_mem _ hx)
      simp only [List.map_cons, tot, totS, List.sum_cons] at h2 ⊢
      rw [Rat.intCast_add, h1, h2]
      grind
  exact key ps (lcm_from ps 1).2
theorem scW_keys (ps : Sh) : (scW ps).map (·.1) = ps.map (·.1) := by unfold scW; rw [List.map_map]; rfl
theorem pv_sp {ps : Sh} {M : Nat} (p : Pv ps M) : Sp (nrm (scW ps)) M ∧ (∀ k, pr (nrm (scW ps)) k = valS ps k) ∧ (∃ q ∈ scW ps, 0 < q.2) := by
  have ht := tot_scW ps
  rw [p.one] at ht
  have ht : tot (scW ps) = (lcmS ps : Int) := by
    have : ((tot (scW ps) : Int) : Rat) = ((lcmS ps : Int) : Rat) := by rw [ht]; push_cast; grind
    exact_mod_cast this
  have lp := lcmS_pos ps
  obtain ⟨h1, h2, h3⟩ := nrm_sp (w := scW ps) (M := M) (by rw [scW_keys]; exact p.nd) (by rw [scW_keys]; exact p.ks) (fun q hq => by
    obtain ⟨x, hx, e⟩ := List.mem_map.mp hq
    subst e
    exact Int.mul_nonneg (Rat.num_nonneg.mpr (p.nn x hx)) (Int.ediv_nonneg (by omega) (by omega))) (by rw [ht]; omega) (by
      rw [ht]
      exact lcm_dvd_from ps 1 (Nat.one_dvd M) p.dv)
  refine ⟨h1, fun k => ?_, h3⟩
  rw [h2, scW_val, ht]
  have : ((lcmS ps : Nat) : Rat) ≠ 0 := by exact_mod_cast (Nat.ne_of_gt lp)
  push_cast
  grind
theorem Pv.bd {ps : Sh} {M : Nat} (p : Pv ps M) : ∀ q ∈ ps, Bd M 1 q.2 := fun q hq => by
  refine ⟨p.nn q hq, ?_, p.dv q hq⟩
  have : ∀ l : Sh, (∀ q ∈ l, 0 ≤ q.2) → ∀ q ∈ l, q.2 ≤ totS l := by
    intro l
    induction l with
    | nil => intro _ q h; cases h
    | cons x r ih =>
      intro h q hq
      have h0 := h x List.mem_cons_self
      have h1 : ∀ y ∈ r, 0 ≤ y.2 := fun y hy => h y (List.mem_cons_of_mem _ hy)
      have h2 : 0 ≤ totS r := sum_nn fun y hy => by
        obtain ⟨z, hz, e⟩ := List.mem_map.mp hy
        exact e ▸ h1 z hz
      simp only [totS, List.map_cons, List.sum_cons] at h2 ⊢
      rcases List.mem_cons.mp hq with e | e
      · subst e; grind
      · have := ih h1 q e
        simp only [totS] at this
        grind
  have := this ps p.nn q hq
  rw [p.one] at this
  simpa using this
/-! ### the defs' table -/
theorem fns_at {cst : Str → Option D} {tups : List D} : ∀ {l : List Df} {i : Nat} {f : Df}, (l.map (·.nm)).Nodup → l[i]? = some f → fnsOf cst tups l f.nm = some (run ⟨fnsOf cst tups (l.drop (i + 1)), cst, tups⟩ f.ps.length f.N.length f.body)
  | [], i, f, _, h => by simp at h
  | d :: r, 0, f, _, h => by
    simp only [List.getElem?_cons_zero, Option.some.injEq] at h
    subst h
    simp [fnsOf]
  | d :: r, i + 1, f, nd, h => by
    rw [List.map_cons, List.nodup_cons] at nd
    rw [List.getElem?_cons_succ] at h
    have hne : ¬ f.nm = d.nm := fun e => nd.1 (e ▸ List.mem_map_of_mem (List.mem_of_getElem? h))
    simp only [fnsOf, if_neg hne, List.drop_succ_cons]
    exact fns_at nd.2 h
theorem ap_at {cst : Str → Option D} {tups : List D} {l : List Df} (nd : (l.map (·.nm)).Nodup) (i : Nat) {f : Df} {as : List D} {r : D} (h : l[i]? = some f) (hr : run ⟨fnsOf cst tups (l.drop (i + 1)), cst, tups⟩ f.ps.length f.N.length f.body as = some r) (k : Nat) (hk : k ≤ i) : ap ⟨fnsOf cst tups (l.drop k), cst, tups⟩ f.nm as = some r := by
  have nd' : ((l.drop k).map (·.nm)).Nodup := nd.sublist ((List.drop_sublist k l).map _)
  have h' : (l.drop k)[i - k]? = some f := by rw [List.getElem?_drop, show k + (i - k) = i by omega]; exact h
  have e := fns_at (cst := cst) (tups := tups) nd' h'
  rw [List.drop_drop, show k + (i - k + 1) = i + 1 by omega] at e
  unfold ap
  simp only [e, Option.bind_some]
  exact hr
end PL


set_option Elab.async false
set_option linter.all false
set_option maxRecDepth 100000
set_option exponentiation.threshold 20000
/-! MS: the small defs at the table. -/
namespace PL
open PySem
def Gk (k : Nat) : Gb := ⟨fnsOf (cstOf K22.cns) (tupsOf K22.cns) (K22.dfs.drop k), cstOf K22.cns, tupsOf K22.cns⟩
theorem dfs_nd : (K22.dfs.map (·.nm)).Nodup := by decide +kernel
/-- a def's place -/
def pl (n : Str) : Nat := (K22.dfs.map (·.nm)).idxOf n
theorem at_ {n : Str} {f : Df} {as : List D} {r : D} (h : K22.dfs[pl n]? = some f) (hn : f.nm = n) (hr : run (Gk (pl n + 1)) f.ps.length f.N.length f.body as = some r) : ∀ k, k ≤ pl n → ap (Gk k) n as = some r := by
  subst hn
  exact fun k hk => ap_at dfs_nd _ h hr k hk
theorem cN (k : Nat) : (Gk k).cst "NOUGHT" = some (fr 0) := rfl
theorem cO (k : Nat) : (Gk k).cst "ONE" = some (fr 1) := rfl
theorem cM (k : Nat) : (Gk k).cst "MOST_VALUES" = some (.int 5000) := rfl
theorem cA (k : Nat) : (Gk k).cst "MOST_ANSWERS" = some (.int 20) := rfl
theorem a_int (z : Int) : ∀ k, k ≤ pl "is_integer" → ap (Gk k) "is_integer" [.int z] = some (.bool true) := at_ rfl rfl (is_integer_int z)
theorem a_row (z : Int) : ∀ k, k ≤ pl "is_row" → ap (Gk k) "is_row" [.int z] = some (.bool false) := at_ rfl rfl (is_row_int z)
theorem a_frac (r : Rat) : ∀ k, k ≤ pl "is_fraction" → ap (Gk k) "is_fraction" [fr r] = some (.bool true) := at_ rfl rfl (is_fraction_ok (fun z => kn_of (a_int z _ (by decide +kernel))) r)
theorem a_lp (a : Int) (b : Nat) (h1 : 0 < b) (h2 : b < 2 ^ 9000) : ∀ k, k ≤ pl "least_pair" → ap (Gk k) "least_pair" [.int a, .int (b : Int)] = some (fr (mkRat a b)) := at_ rfl rfl (least_pair_ok _ a b h1 h2)
theorem L_lp (k : Nat) (h : k ≤ pl "least_pair") : LpOk (Gk k) := fun a b h1 h2 => kn_of (a_lp a b h1 h2 k h)
theorem a_plus {r s : Rat} (hr : Sm r) (hs : Sm s) : ∀ k, k ≤ pl "plus" → ap (Gk k) "plus" [fr r, fr s] = some (fr (r + s)) := at_ rfl rfl (plus_ok (L_lp _ (by decide +kernel)) hr hs)
theorem a_minus {r s : Rat} (hr : Sm r) (hs : Sm s) : ∀ k, k ≤ pl "minus" → ap (Gk k) "minus" [fr r, fr s] = some (fr (r - s)) := at_ rfl rfl (minus_ok (L_lp _ (by decide +kernel)) hr hs)
theorem a_times {r s : Rat} (hr : Sm r) (hs : Sm s) : ∀ k, k ≤ pl "times" → ap (Gk k) "times" [fr r, fr s] = some (fr (r * s)) := at_ rfl rfl (times_ok (L_lp _ (by decide +kernel)) hr hs)
theorem a_val (z : Int) : ∀ k, k ≤ pl "is_value" → ap (Gk k) "is_value" [.int z] = some (.bool true) := at_ rfl rfl (is_value_int (fun z => kn_of (a_int z _ (by decide +kernel))) z)
theorem a_wei (q : Int × Int) (h : 1 ≤ q.2) : ∀ k, k ≤ pl "_is_weighed" → ap (Gk k) "_is_weighed" [prD q] = some (.bool true) := at_ rfl rfl (is_weighed_ok (fun z => kn_of (a_int z _ (by decide +kernel))) (fun z => kn_of (a_val z _ (by decide +kernel))) q h)
theorem a_com (l : List Int) : ∀ k, k ≤ pl "common_of" → ap (Gk k) "common_of" [.list (l.map PyData.int)] = some (.int (gcdL l : Int)) := at_ rfl rfl (common_of_ok l)
theorem a_fault {w : Wt} (v : Vs w) : ∀ k, k ≤ pl "spread_fault" → ap (Gk k) "spread_fault" [spD w] = some .none := at_ rfl rfl (spread_fault_ok (fun z => kn_of (a_int z _ (by decide +kernel))) (fun z => kn_of (a_row z _ (by decide +kernel))) (fun q h => kn_of (a_wei q h _ (by decide +kernel))) (cM _) (fun l => kn_of (a_com l _ (by decide +kernel))) v)
theorem a_check {w : Wt} (v : Vs w) : ∀ k, k ≤ pl "check_spread" → ap (Gk k) "check_spread" [spD w] = some .none := at_ rfl rfl (check_spread_ok (kn_of (a_fault v _ (by decide +kernel))))
theorem a_sow (w : Wt) (nd : (w.map (·.1)).Nodup) (h63 : w.length < 64) (hp : ∃ q ∈ w, 0 < q.2) (hb : ∀ q ∈ w, q.2.natAbs < 2 ^ 250) : ∀ k, k ≤ pl "spread_of_weights" → ap (Gk k) "spread_of_weights" [wD w] = some (spD (nrm w)) := at_ rfl rfl (sow_ok (cM _) (fun l => kn_of (a_com l _ (by decide +kernel))) w nd h63 hp hb)
theorem a_by {ps : Sh} {M : Nat} (hM : 0 < M) (hM1 : M < 2 ^ 64) (p : Pv ps M) : ∀ k, k ≤ pl "spread_by" → ap (Gk k) "spread_by" [sD ps] = some (spD (nrm (scW ps))) := by
  have hb : ∀ q ∈ ps, q.2.num.natAbs < 2 ^ 64 := fun q hq => by
    have := (p.bd q hq).num hM
    omega
  have len : ps.length ≤ 60 := by simpa using len60 p.nd p.ks
  refine at_ rfl rfl (spread_by_ok hM hM1 ps p.dv p.nd (fun q hq => Nat.lt_trans (hb q hq) (by decide)) (kn_of (a_sow (scW ps) (by rw [scW_keys]; exact p.nd) (by simp [scW]; omega) (pv_sp p).2.2 (fun q hq => ?_) _ (by decide +kernel))))
  obtain ⟨x, hx, e⟩ := List.mem_map.mp hq
  subst e
  have hL : lcmS ps ∣ M := lcm_dvd_from ps 1 (Nat.one_dvd M) p.dv
  have hL64 : lcmS ps < 2 ^ 64 := Nat.lt_of_le_of_lt (Nat.le_of_dvd hM hL) hM1
  have h1 : (((lcmS ps : Int) / (x.2.den : Int))).natAbs < 2 ^ 64 := Nat.lt_of_le_of_lt (Int.natAbs_ediv_le_natAbs _ _) (by simpa using hL64)
  exact Nat.lt_trans (natAbs_mul_lt (hb x hx) h1) (by decide)
/-- shares by a def that ends with spread_by -/
theorem a_by' {ps : Sh} {M : Nat} (hM : 0 < M) (hM1 : M < 2 ^ 64) (p : Pv ps M) : ∃ w, Sp w M ∧ (∀ k, pr w k = valS ps k) ∧ ∀ k, k ≤ pl "spread_by" → ap (Gk k) "spread_by" [sD ps] = some (spD w) :=
  ⟨_, (pv_sp p).1, (pv_sp p).2.1, a_by hM hM1 p⟩
theorem a_shares {w : Wt} {M : Nat} (hM : 0 < M) (hM1 : M < 2 ^ 64) (s : Sp w M) : ∀ k, k ≤ pl "shares_of" → ap (Gk k) "shares_of" [spD w] = some (shD w) := at_ rfl rfl (shares_of_ok (L_lp _ (by decide +kernel)) s.vs (Nat.lt_trans (Nat.lt_of_le_of_lt (Nat.le_of_dvd hM s.dv) hM1) (by decide)))
theorem a_chance {w : Wt} {M : Nat} (hM : 0 < M) (hM1 : M < 2 ^ 64) (s : Sp w M) (j : Int) : ∀ k, k ≤ pl "chance_of" → ap (Gk k) "chance_of" [spD w, .int j] = some (fr (pr w j)) := at_ rfl rfl (chance_of_ok (cN _) (fun w v => kn_of (a_check v _ (by decide +kernel))) (fun z => kn_of (a_val z _ (by decide +kernel))) s.vs (kn_of (a_shares hM hM1 s _ (by decide +kernel))) j)
theorem sort_acc {T : List D} (f : D → Option (Option (D × D))) : ∀ (l : List Int) (acc : List (D × D)), (∀ z ∈ l, f (.int z) = some (some (.bool false, .bool true))) → (acc = [] ∨ acc = [(.bool false, .bool true)]) → ∃ r, compDK T f (l.map PyData.int) acc = some r ∧ (r = [] ∨ r = [(.bool false, .bool true)])
  | [], acc, _, h => ⟨acc, rfl, h⟩
  | z :: r, acc, hf, h => by
    have h1 := hf z List.mem_cons_self
    have h2 : ∀ y ∈ r, f (.int y) = some (some (.bool false, .bool true)) := fun y hy => hf y (List.mem_cons_of_mem _ hy)
    simp only [List.map_cons, compDK, h1, Option.bind_some, kdOf]
    rcases h with rfl | rfl
    · exact sort_acc f r [(.bool false, .bool true)] h2 (.inr rfl)
    · exact sort_acc f r [(.bool false, .bool true)] h2 (.inr rfl)
theorem a_sort (l : List Int) : ∀ k, k ≤ pl "are_of_one_sort" → ap (Gk k) "are_of_one_sort" [.list (l.map PyData.int)] = some (.bool true) := by
  refine at_ rfl rfl ?_
  have hr := fun z => a_row z _ (show pl "are_of_one_sort" + 1 ≤ pl "is_row" by decide +kernel)
  obtain ⟨r, h1, h2⟩ := sort_acc (T := (Gk (pl "are_of_one_sort" + 1)).tups) (stepDK [1] (.v 1) (fun ρ1 => evC (Gk (pl "are_of_one_sort" + 1)) .non ρ1) (fun ρ1 => ev (Gk (pl "are_of_one_sort" + 1)) (.call "is_row" (.cons (.v 1) .nil)) ρ1) (fun ρ1 => ev (Gk (pl "are_of_one_sort" + 1)) (.bl true) ρ1) [.fz (.list (l.map PyData.int)), .un]) l [] (fun z _ => by
    unfold stepDK
    simp [-List.map_map, xcall, xv, xnon, xbl, xint, xstr, xg, xop, xcmp, xchain, xisN, xnotN, xand, xor, xnot, xite, xbi, xisi, xtup, xlst, xix, xsl, xrev, xget, xlvals, xoget, xolen, evs, evO, evC, evS, evSs, evR, bindP, unpD, freeze, wipeE, En.get, En.own, asB, asI, isNo, hr z]) (.inl rfl)
  refine run_of (ρ := [.fz (.list (l.map PyData.int)), .un]) rfl rfl ?_
  refine evSs_rt ?_
  have e := ev_dc (own := [1]) (k := .call "is_row" (.cons (.v 1) .nil)) (v := .bl true) (p := .v 1) (cond := .non) (G := Gk (pl "are_of_one_sort" + 1)) (it := .seq (.v 0)) (ρ := [.fz (.list (l.map PyData.int)), .un]) (ds := l.map PyData.int) (by simp [-List.map_map, xcall, xv, xnon, xbl, xint, xstr, xg, xop, xcmp, xchain, xisN, xnotN, xand, xor, xnot, xite, xbi, xisi, xtup, xlst, xix, xsl, xrev, xget, xlvals, xoget, xolen, evs, evO, evC, evS, evSs, evR, bindP, unpD, freeze, wipeE, En.get, En.own, asB, asI, isNo, evI, seqD]) h1
  rcases h2 with rfl | rfl
  · simp [-List.map_map, xcall, xv, xnon, xbl, xint, xstr, xg, xop, xcmp, xchain, xisN, xnotN, xand, xor, xnot, xite, xbi, xisi, xtup, xlst, xix, xsl, xrev, xget, xlvals, xoget, xolen, evs, evO, evC, evS, evSs, evR, bindP, unpD, freeze, wipeE, En.get, En.own, asB, asI, isNo, e, biD, cmpD, ltD]
  · simp [-List.map_map, xcall, xv, xnon, xbl, xint, xstr, xg, xop, xcmp, xchain, xisN, xnotN, xand, xor, xnot, xite, xbi, xisi, xtup, xlst, xix, xsl, xrev, xget, xlvals, xoget, xolen, evs, evO, evC, evS, evSs, evR, bindP, unpD, freeze, wipeE, En.get, En.own, asB, asI, isNo, e, biD, cmpD, ltD]
end PL


set_option Elab.async false
set_option linter.all false
set_option maxRecDepth 100000
set_option exponentiation.threshold 20000
/-! MT: mixed, turned. -/
namespace PL
open PySem
theorem all_true : ∀ {l : List D}, (∀ d ∈ l, d = .bool true) → ∃ bs, allBools l = some bs ∧ bs.all id = true
  | [], _ => ⟨[], rfl, rfl⟩
  | d :: r, h => by
    obtain ⟨bs, h1, h2⟩ := all_true (l := r) fun x hx => h x (List.mem_cons_of_mem _ hx)
    have e := h d List.mem_cons_self
    subst e
    exact ⟨true :: bs, by simp [allBools, h1], by simpa using h2⟩
theorem bi_all {T : List D} {l : List D} (h : ∀ d ∈ l, d = .bool true) : biD T .all [.list l] = some (.bool true) := by
  obtain ⟨bs, h1, h2⟩ := all_true h
  simp only [biD, h1, Option.map_some, h2]
/-- all of a comprehension's items hold -/
theorem ev_all {G : Gb} {own : List Nat} {e : Ex} {p : Pat} {it : Iu} {ρ : En} {β : Type} {g : β → D} {bs : List β} (h : evI G it ρ = some (bs.map g)) (k : ∀ b ∈ bs, stepL own p (fun ρ1 => evC G .non ρ1) (fun ρ1 => ev G e ρ1) ρ (g b) = some (some (.bool true))) : ev G (.bi .all (.cons (.lc own e p it .non) .nil)) ρ = some (.bool true) := by
  have h2 := ev_lc (e := e) h (compL_all (k := fun _ => PyData.bool true) bs k)
  rw [xbi, evs, h2]
  simp only [evs, Option.bind_some, Option.map_some]
  exact bi_all fun d hd => by
    obtain ⟨_, _, e⟩ := List.mem_map.mp hd
    exact e.symm
theorem a_pairs (l : List (D × D)) : ∀ k, k ≤ pl "are_pairs" → ap (Gk k) "are_pairs" [.tuple (l.map fun q => .tuple [q.1, q.2])] = some (.bool true) := by
  refine at_ rfl rfl ?_
  refine run_of (ρ := [.fz (.tuple (l.map fun q => .tuple [q.1, q.2])), .un]) rfl rfl ?_
  refine evSs_rt ?_
  have h1 : isiD "tuple" (.tuple (l.map fun q : D × D => PyData.tuple [q.1, q.2])) = some true := rfl
  have e := ev_all (G := Gk (pl "are_pairs" + 1)) (own := [1]) (e := .and_ (.isi (.v 1) "tuple") (.cmp .eq (.bi .len (.cons (.v 1) .nil)) (.int 2))) (p := .v 1) (it := .seq (.v 0)) (ρ := [.fz (.tuple (l.map fun q => .tuple [q.1, q.2])), .un]) (g := fun q : D × D => .tuple [q.1, q.2]) (bs := l) (by simp [-List.map_map, xcall, xv, xnon, xbl, xint, xstr, xg, xop, xcmp, xchain, xisN, xnotN, xand, xor, xnot, xite, xbi, xisi, xtup, xlst, xix, xsl, xrev, xget, xlvals, xoget, xolen, evs, evO, evC, evS, evSs, evR, bindP, unpD, freeze, wipeE, En.get, En.own, asB, asI, isNo, evI, seqD]) fun b _ => by
    have h2 : isiD "tuple" (.tuple [b.1, b.2]) = some true := rfl
    have h3 : biD (Gk (pl "are_pairs" + 1)).tups .len [.tuple [b.1, b.2]] = some (.int 2) := rfl
    have h4 : cmpD (Gk (pl "are_pairs" + 1)).tups .eq (.int 2) (.int 2) = some true := rfl
    unfold stepL
    simp [-List.map_map, xcall, xv, xnon, xbl, xint, xstr, xg, xop, xcmp, xchain, xisN, xnotN, xand, xor, xnot, xite, xbi, xisi, xtup, xlst, xix, xsl, xrev, xget, xlvals, xoget, xolen, evs, evO, evC, evS, evSs, evR, bindP, unpD, freeze, wipeE, En.get, En.own, asB, asI, isNo, h2, h3, h4]
  simp [-List.map_map, xcall, xv, xnon, xbl, xint, xstr, xg, xop, xcmp, xchain, xisN, xnotN, xand, xor, xnot, xite, xbi, xisi, xtup, xlst, xix, xsl, xrev, xget, xlvals, xoget, xolen, evs, evO, evC, evS, evSs, evR, bindP, unpD, freeze, wipeE, En.get, En.own, asB, asI, isNo, h1, e]
/-- a list's items, each with a share -/
def mixD (ps : List (Rat × Wt)) : D := .tuple (ps.map fun q => .tuple [fr q.1, spD q.2])
def mixL (ps : List (Rat × Wt)) : Sh := ps.flatMap fun q => (rwS q.2).map fun x => (x.1, q.1 * x.2)
theorem adds_append (L L' : Sh) (acc : Sh) : adds (L ++ L') acc = adds L' (adds L acc) := List.foldl_append
theorem mixL_val (ps : List (Rat × Wt)) (hv : ∀ q ∈ ps, Vs q.2) (k : Int) : sumAt (mixL ps) k = (ps.map fun q => q.1 * pr q.2 k).sum := by
  induction ps with
  | nil => simp [mixL, sumAt]
  | cons q r ih =>
    have ih := ih fun x hx => hv x (List.mem_cons_of_mem _ hx)
    have e : sumAt (mixL (q :: r)) k = sumAt ((rwS q.2).map fun x => (x.1, q.1 * x.2)) k + sumAt (mixL r) k := by
      simp only [mixL, List.flatMap_cons, sumAt, List.map_append, List.sum_append]
    rw [e, ih, List.map_cons, List.sum_cons]
    congr 1
    rw [← rwS_val, ← sumAt_val (by rw [rwS_keys]; exact (hv q List.mem_cons_self).nd)]
    unfold sumAt
    rw [List.map_map, ← sum_mul_r]
    congr 1
    refine List.map_congr_left fun x _ => ?_
    simp only [Function.comp]
    split
    · rfl
    · grind
theorem mixL_tot (ps : List (Rat × Wt)) (hv : ∀ q ∈ ps, Vs q.2) : totS (mixL ps) = (ps.map (·.1)).sum := by
  induction ps with
  | nil => simp [mixL, totS]
  | cons q r ih =>
    have ih := ih fun x hx => hv x (List.mem_cons_of_mem _ hx)
    have e : totS (mixL (q :: r)) = totS ((rwS q.2).map fun x => (x.1, q.1 * x.2)) + totS (mixL r) := by
      simp only [mixL, List.flatMap_cons, totS, List.map_append, List.sum_append]
    rw [e, ih, List.map_cons, List.sum_cons]
    congr 1
    have h := rwS_tot (hv q List.mem_cons_self)
    unfold totS at h ⊢
    rw [List.map_map]
    have : (rwS q.2).map ((fun x => x.2) ∘ fun x : Int × Rat => (x.1, q.1 * x.2)) = (rwS q.2).map fun x => q.1 * x.2 := rfl
    rw [this, sum_mul_r, h]
    grind
/-- what has been added up so far: shares from 0 on that go into M, 1 together with those to come -/
structure Ac (acc : Sh) (M : Nat) (c : Rat) : Prop where
  nd : (acc.map (·.1)).Nodup
  ks : ∀ k : Int, k ∈ acc.map (·.1) → -30 ≤ k ∧ k < 30
  nn : ∀ q ∈ acc, 0 ≤ q.2
  dv : ∀ q ∈ acc, q.2.den ∣ M
  le : totS acc + c ≤ 1
theorem Ac.bd {acc : Sh} {M : Nat} {c : Rat} (a : Ac acc M c) (hc : 0 ≤ c) (k : Int) : Bd M 1 (valS acc k) := by
  refine ⟨valS_of (P := fun r => 0 ≤ r) a.nn (by decide) k, ?_, valS_of (P := fun r => r.den ∣ M) a.dv (dvd_zero M) k⟩
  have h1 := val_le_tot a.nn k
  have h2 := a.le
  have h3 : valS acc k ≤ 1 := by grind
  simpa using h3
theorem Ac.put {acc : Sh} {M : Nat} {c v : Rat} {k : Int} (a : Ac acc M (v + c)) (h0 : 0 ≤ v) (hv : v.den ∣ M) (hk : -30 ≤ k ∧ k < 30) : Ac (addS acc k v) M c := by
  refine ⟨addS_nd a.nd k v, fun j hj => ?_, putI_all (P := fun r : Rat => 0 ≤ r) a.nn ?_, putI_all (P := fun r : Rat => r.den ∣ M) a.dv ?_, ?_⟩
  · have hj' : j = k ∨ j ∈ acc.map (·.1) := putI_mem_key (v := valS acc k + v).mp hj
    rcases hj' with e | e
    · subst e; exact hk
    · exact a.ks j e
  · have := valS_of (P := fun r => 0 ≤ r) a.nn (by decide) k
    grind
  · exact dvd_add (valS_of (P := fun r => r.den ∣ M) a.dv (dvd_zero M) k) hv
  · have := a.le
    rw [totS_addS a.nd]
    grind
theorem Ac.len {acc : Sh} {M : Nat} {c : Rat} (a : Ac acc M c) : acc.length ≤ 60 := by simpa using len60 a.nd a.ks
theorem sk_look (ps : Sh) (k : Int) : ((sk ps).lookup k).getD (fr 0) = fr (valS ps k) := by
  unfold valS
  induction ps with
  | nil => rfl
  | cons q r ih =>
    obtain ⟨a, b⟩ := q
    show ((((a, fr b) :: sk r) : List (Int × D)).lookup k).getD (fr 0) = _
    rw [List.lookup_cons, List.lookup_cons]
    by_cases h : k = a
    · simp [h]
    · have : (k == a) = false := beq_eq_false_iff_ne.mpr h
      rw [this]
      exact ih
theorem sk_put (ps : Sh) (k : Int) (v : Rat) : (putI (sk ps) k (fr v)).map kd = (sk (putI ps k v)).map kd := by
  unfold sk
  rw [putI_map]
end PL


set_option Elab.async false
set_option linter.all false
set_option maxRecDepth 100000
set_option exponentiation.threshold 20000
/-! MU: mixed, whole; turned. -/
namespace PL
open PySem
theorem row0 {T : List D} {w : Wt} (v : Vs w) : ∃ z : Int, ixD T (rowsD w) (.int 0) = some (prD (z, valW w z)) := by
  obtain ⟨q, r, e⟩ := List.exists_cons_of_ne_nil v.ne
  refine ⟨q.1, ?_⟩
  have h : w[0]? = some q := by rw [e]; rfl
  have hq : (q.1, valW w q.1) = q := by
    unfold valW
    rw [(lookup_mem_iff v.nd).mpr (show (q.1, q.2) ∈ w from List.mem_of_getElem? h)]
    rfl
  rw [hq]
  exact row_at (i := 0) h
theorem cmp_ne_same {T : List D} {d : D} (h : SeqAt.shaped d = true) : cmpD T .ne d d = some false := by
  have h1 : PyData.eqv d d = true := SeqAt.eqv_refl d (SeqAt.canLay_of_shaped h)
  simp [cmpD, h, h1]
theorem cmp_eq_same {T : List D} {d : D} (h : SeqAt.shaped d = true) : cmpD T .eq d d = some true := by
  have h1 : PyData.eqv d d = true := SeqAt.eqv_refl d (SeqAt.canLay_of_shaped h)
  simp [cmpD, h, h1]
theorem fr_shaped (r : Rat) : SeqAt.shaped (fr r) = true := rfl
theorem ix_spD {T : List D} (w : Wt) : ixD T (spD w) (.int 1) = some (rowsD w) := rfl
theorem ix_spD0 {T : List D} (w : Wt) : ixD T (spD w) (.int 0) = some (.int (tot w)) := rfl
theorem shD_items (w : Wt) : itemsI (shD w) = some ((rwS w).map fun q => .tuple [.int q.1, fr q.2]) := by
  have k := kK_ints (shK w)
  simp only [itemsI, shD, k, if_true]
  congr 1
  simp only [shK, rwS, List.map_map]
  rfl
end PL


set_option Elab.async false
set_option linter.all false
set_option maxRecDepth 100000
set_option exponentiation.threshold 20000
/-! MV: turned. -/
namespace PL
open PySem
def awy (m : Nat) (k : Rat) : Rat := (1 - k) * mkRat 1 (m - 1)
/-- the chances of an answer turned -/
def Tn (m : Nat) (i : Int) (k : Rat) (j : Int) : Rat := if 0 ≤ j ∧ j < m then (if j = i then k else awy m k) else 0
def tsF (m : Nat) (i : Int) (k : Rat) : Sh := (List.range m).map fun (j : Nat) => ((j : Int), if (j : Int) = i then k else awy m k)
theorem awy_eq {m : Nat} (h : 2 ≤ m) (k : Rat) : awy m k * ((m : Rat) - 1) = 1 - k := by
  unfold awy
  rw [Rat.mkRat_eq_div]
  have e : ((m - 1 : Nat) : Rat) = (m : Rat) - 1 := by
    have : ((m - 1 : Nat) : Int) = (m : Int) - 1 := by omega
    have h2 : (((m - 1 : Nat) : Int) : Rat) = (((m : Int) - 1 : Int) : Rat) := by rw [this]
    push_cast at h2
    exact h2
  rw [e]
  have h3 : (m : Rat) - 1 ≠ 0 := by
    rw [← e]
    exact_mod_cast (show m - 1 ≠ 0 by omega)
  push_cast
  generalize (m : Rat) = x at *
  grind
theorem tsF_keys (m : Nat) (i : Int) (k : Rat) : (tsF m i k).map (·.1) = (List.range m).map fun (j : Nat) => (j : Int) := by
  unfold tsF
  rw [List.map_map]
  rfl
theorem range_nd (m : Nat) : ((List.range m).map fun (j : Nat) => (j : Int)).Nodup := by
  rw [List.Nodup, List.pairwise_map]
  exact List.nodup_range.imp fun h e => h (by exact_mod_cast e)
theorem val_rng (f : Int → Rat) (j : Int) (m : Nat) : valS ((List.range m).map fun (j : Nat) => ((j : Int), f j)) j = if 0 ≤ j ∧ j < m then f j else 0 := by
  by_cases h : 0 ≤ j ∧ j < m
  · rw [if_pos h]
    have hm : (j, f j) ∈ (List.range m).map fun (j : Nat) => ((j : Int), f j) := List.mem_map.mpr ⟨j.toNat, List.mem_range.mpr (by omega), by rw [show ((j.toNat : Nat) : Int) = j by omega]⟩
    have nd : (((List.range m).map fun (j : Nat) => ((j : Int), f j)).map (·.1)).Nodup := by rw [List.map_map]; exact range_nd m
    have hk : j ∈ ((List.range m).map fun (j : Nat) => ((j : Int), f j)).map (·.1) := List.mem_map_of_mem (f := Prod.fst) hm
    have h2 := valS_mem hk
    obtain ⟨x, hx, e⟩ := List.mem_map.mp h2
    have e1 := congrArg Prod.fst e
    have e2 := congrArg Prod.snd e
    simp only at e1 e2
    rw [← e2, e1]
  · rw [if_neg h]
    refine valS_none fun hk => h ?_
    rw [List.map_map] at hk
    obtain ⟨x, hx, e⟩ := List.mem_map.mp hk
    have := List.mem_range.mp hx
    simp only [Function.comp] at e
    omega
theorem tsF_val (m : Nat) (i : Int) (k : Rat) (j : Int) : valS (tsF m i k) j = Tn m i k j := val_rng (fun j => if j = i then k else awy m k) j m
theorem Tn_split (m : Nat) (i : Int) (k : Rat) {j : Int} (h0 : 0 ≤ j) (h1 : j < m) : Tn m i k j = awy m k + if j = i then k - awy m k else 0 := by
  unfold Tn
  rw [if_pos ⟨h0, h1⟩]
  split <;> grind
theorem Tn_bd {m A : Nat} (h : 2 ≤ m) {i : Int} {k : Rat} (k0 : 0 ≤ k) (k1 : k ≤ 1) (kd : k.den ∣ A) (j : Int) : 0 ≤ Tn m i k j ∧ (Tn m i k j).den ∣ A * (m - 1) := by
  have a0 : 0 ≤ awy m k := Rat.mul_nonneg (by grind) (by
    rw [Rat.mkRat_eq_div]
    exact Rat.le_of_lt (div_pos' (by decide) (by exact_mod_cast (show 0 < m - 1 by omega))))
  unfold Tn
  split
  · split
    · exact ⟨k0, Nat.dvd_trans kd (Nat.dvd_mul_right _ _)⟩
    · exact ⟨a0, dvd_mul (dvd_sub (dvd_one A) kd) (mkRat_dvd 1 (by omega))⟩
  · exact ⟨by decide, dvd_zero _⟩
theorem a_noise : ∀ k, k ≤ pl "check_noise" → ap (Gk k) "check_noise" [.bool true] = some .none := by
  refine at_ rfl rfl ?_
  unfold K22.f_check_noise K22.b_check_noise
  simp [-List.map_map, xcall, xv, xnon, xbl, xint, xstr, xg, xop, xcmp, xchain, xisN, xnotN, xand, xor, xnot, xite, xbi, xisi, xtup, xlst, xix, xsl, xrev, xget, xlvals, xoget, xolen, evs, evO, evC, evS, evSs, evR, bindP, unpD, freeze, wipeE, En.get, En.own, asB, asI, isNo, run]
theorem rng_m {m : Nat} (h : m ≤ 1000) : rngD 0 (m : Int) = some ((List.range m).map fun (j : Nat) => .int (j : Int)) := by
  unfold rngD
  rw [if_pos (by omega)]
  simp
theorem asI_int (z : Int) : asI (some (.int z)) = some z := rfl
theorem ev_rng {G : Gb} {ρ : En} {a : Ex} {m : Nat} (h : ev G a ρ = some (.int (m : Int))) (hm : m ≤ 1000) : evI G (.rng1 a) ρ = some ((List.range m).map fun (j : Nat) => .int (j : Int)) := by
  have e : evI G (.rng1 a) ρ = (asI (ev G a ρ)).bind fun z => rngD 0 z := by simp only [evI]
  rw [e, h, asI_int, Option.bind_some]
  exact rng_m hm
theorem eq_int {T : List D} (a b : Int) : cmpD T .eq (.int a) (.int b) = some (decide (a = b)) := by
  have : SeqAt.shaped (.int a) = true := rfl
  have h2 : SeqAt.shaped (.int b) = true := rfl
  simp only [cmpD, this, h2, Bool.and_self, if_true, PyData.eqv]
  rfl
end PL


set_option Elab.async false
set_option linter.all false
set_option maxRecDepth 100000
set_option exponentiation.threshold 20000
/-! MW: what is left over. -/
namespace PL
open PySem
def ppt (x : Rat) : Rat := if 0 < x then x else 0
theorem ppt_nn (x : Rat) : 0 ≤ ppt x := by unfold ppt; split <;> grind
theorem ppt_le {x y : Rat} (h : x ≤ y) (hy : 0 ≤ y) : ppt x ≤ y := by unfold ppt; split <;> grind
/-- what is left over -/
def Lf (one two : Wt) (r : Rat) : Rat := smR 60 fun k => ppt (pr one k - r * pr two k)
/-- a row's rest -/
def lfR (two : Wt) (r : Rat) (q : Int × Rat) : Option (Int × Rat) := if r * pr two q.1 < q.2 then some (q.1, q.2 - r * pr two q.1) else none
theorem put_end {α : Type} {l : List (Int × α)} {k : Int} {v : α} (h : k ∉ l.map (·.1)) : putI l k v = l ++ [(k, v)] := by unfold putI; rw [if_neg h]
theorem rwS_pr {w : Wt} (v : Vs w) : ∀ q ∈ rwS w, q.2 = pr w q.1 := by
  intro q hq
  obtain ⟨p, hp, e⟩ := List.mem_map.mp hq
  subst e
  exact pr_mem v hp
theorem lvals_sD (ps : Sh) : lvalsI (sD ps) = some (.list ((ps.map (·.2)).map fr)) := by
  have k := kK_ints (sk ps)
  simp only [lvalsI, sD, k, if_true, vals_ints]
  simp only [sk, List.map_map]
  rfl
theorem lf_sum {one two : Wt} {M : Nat} (s1 : Sp one M) (r : Rat) (r0 : 0 ≤ r) (v2 : Vs two) : (((rwS one).filterMap (lfR two r)).map (·.2)).sum = Lf one two r := by
  have e : ∀ l : Sh, ((l.filterMap (lfR two r)).map (·.2)).sum = (l.map fun q => ppt (q.2 - r * pr two q.1)).sum := by
    intro l
    induction l with
    | nil => rfl
    | cons q t ih =>
      rw [List.filterMap_cons, List.map_cons, List.sum_cons]
      by_cases h : r * pr two q.1 < q.2
      · have e1 : lfR two r q = some (q.1, q.2 - r * pr two q.1) := if_pos h
        have e2 : ppt (q.2 - r * pr two q.1) = q.2 - r * pr two q.1 := if_pos (by grind)
        rw [e1, e2]
        simp only [List.map_cons, List.sum_cons]
        rw [ih]
      · have e1 : lfR two r q = none := if_neg h
        have e2 : ppt (q.2 - r * pr two q.1) = 0 := if_neg (by grind)
        rw [e1, e2]
        simp only
        rw [ih]
        grind
  rw [e]
  have e2 : (rwS one).map (fun q => ppt (q.2 - r * pr two q.1)) = ((rwS one).map fun q => (q.1, ppt (pr one q.1 - r * pr two q.1))).map (·.2) := by
    rw [List.map_map]
    refine List.map_congr_left fun q hq => ?_
    simp only [Function.comp]
    rw [rwS_pr s1.vs q hq]
  rw [e2]
  rw [← smR_keys (n := 60) (fun _ _ r => r) _ (fun q hq => by
    obtain ⟨x, hx, e⟩ := List.mem_map.mp hq
    subst e
    exact s1.ks x.1 (by rw [← rwS_keys]; exact List.mem_map_of_mem hx))]
  unfold Lf
  refine smR_congr fun j _ _ => ?_
  have nd : (((rwS one).map fun q => (q.1, ppt (pr one q.1 - r * pr two q.1))).map (·.1)).Nodup := by
    rw [List.map_map]
    show ((rwS one).map (·.1)).Nodup
    rw [rwS_keys]
    exact s1.vs.nd
  have := sumAt_val nd j
  unfold sumAt at this
  rw [this]
  by_cases hj : j ∈ one.map (·.1)
  · have hk : j ∈ (((rwS one).map fun q => (q.1, ppt (pr one q.1 - r * pr two q.1))).map (·.1)) := by
      rw [List.map_map]
      show j ∈ (rwS one).map (·.1)
      rw [rwS_keys]
      exact hj
    obtain ⟨x, hx, e⟩ := List.mem_map.mp (valS_mem hk)
    have e1 := congrArg Prod.fst e
    have e2 := congrArg Prod.snd e
    simp only at e1 e2
    rw [← e2, e1]
  · rw [valS_none (by
      rw [List.map_map]
      show j ∉ (rwS one).map (·.1)
      rw [rwS_keys]
      exact hj), pr_none hj]
    unfold ppt
    have := Rat.mul_nonneg r0 (pr_nn v2 j)
    rw [if_neg (by grind)]
end PL


set_option Elab.async false
set_option linter.all false
set_option maxRecDepth 100000
set_option exponentiation.threshold 20000
/-! MX: a dict of pairs; mapped. -/
namespace PL
open PySem
theorem toPairs_rows : ∀ w : Wt, toPairs (w.map prD) = some ((wk w).map kd)
  | [] => rfl
  | q :: r => by
    have := toPairs_rows r
    simp only [List.map_cons, prD, toPairs] at this ⊢
    rw [this]
    rfl
theorem dictOf_rows {T : List D} : ∀ (w acc : Wt), ((acc ++ w).map (·.1)).Nodup → dictOfPairs T ((wk acc).map kd) ((wk w).map kd) = some ((wk (acc ++ w)).map kd)
  | [], acc, _ => by simp [dictOfPairs, wk]
  | q :: r, acc, nd => by
    obtain ⟨k, v⟩ := q
    have hk : k ∉ (wk acc).map (·.1) := by
      rw [wk_keys]
      rw [List.map_append, List.map_cons] at nd
      intro h
      exact (List.nodup_append.mp nd).2.2 k h k List.mem_cons_self rfl
    have e : (wk ((k, v) :: r)).map kd = (.int k, .int v) :: (wk r).map kd := rfl
    rw [e]
    simp only [dictOfPairs, keyK_ints, Option.bind_some]
    rw [putD_ints, put_end hk]
    have e2 : wk acc ++ [(k, PyData.int v)] = wk (acc ++ [(k, v)]) := by simp [wk]
    rw [e2, dictOf_rows r (acc ++ [(k, v)]) (by
      simp only [List.map_append, List.map_cons, List.map_nil, List.append_assoc, List.cons_append, List.nil_append] at nd ⊢
      exact nd)]
    simp
theorem dict_rows {T : List D} {w : Wt} (hne : w ≠ []) (nd : (w.map (·.1)).Nodup) : biD T .dict [rowsD w] = some (wD w) := by
  have h1 : (w.map prD).isEmpty = false := by
    cases w with
    | nil => exact absurd rfl hne
    | cons _ _ => rfl
  have h2 : ((wk w).map kd).all (fun p => isKd T p.1) = true := by
    rw [List.all_eq_true]
    intro p hp
    obtain ⟨x, _, e⟩ := List.mem_map.mp hp
    subst e
    rfl
  have h3 := dictOf_rows (T := T) w [] (by simpa using nd)
  simp only [biD, rowsD, h1, Bool.false_eq_true, if_false, toPairs_rows, Option.bind_some, mkDict, h2, if_true]
  rw [show ([] : List (D × D)) = (wk []).map kd from rfl, h3]
  rfl
def wS (w : Wt) : Sh := w.map fun q => (q.1, (q.2 : Rat))
theorem wS_keys (w : Wt) : (wS w).map (·.1) = w.map (·.1) := by unfold wS; rw [List.map_map]; rfl
theorem wS_val (w : Wt) (k : Int) : valS (wS w) k = (valW w k : Rat) := by
  induction w with
  | nil => simp [wS, valS, valW]
  | cons q r ih =>
    obtain ⟨a, b⟩ := q
    show valS ((a, (b : Rat)) :: wS r) k = _
    rw [valS_cons, ih]
    unfold valW
    rw [List.lookup_cons]
    by_cases h : k = a
    · simp [h]
    · have : (k == a) = false := beq_eq_false_iff_ne.mpr h
      simp [this, h]
theorem wS_tot (w : Wt) : totS (wS w) = (tot w : Rat) := by
  induction w with
  | nil => simp [wS, totS, tot]
  | cons q r ih =>
    have e1 : totS (wS (q :: r)) = (q.2 : Rat) + totS (wS r) := by simp only [wS, List.map_cons, totS, List.sum_cons]
    have e2 : tot (q :: r) = q.2 + tot r := by simp only [List.map_cons, tot, List.sum_cons]
    rw [e1, e2, ih, Rat.intCast_add]
def addW (acc : Wt) (k v : Int) : Wt := putI acc k (valW acc k + v)
theorem wS_add (acc : Wt) (k v : Int) : wS (addW acc k v) = addS (wS acc) k (v : Rat) := by
  unfold addW addS wS
  rw [putI_map]
  have := wS_val acc k
  unfold wS at this
  rw [this, Rat.intCast_add]
def addsW (L acc : Wt) : Wt := L.foldl (fun a q => addW a q.1 q.2) acc
theorem wS_adds : ∀ (L acc : Wt), wS (addsW L acc) = adds (wS L) (wS acc)
  | [], acc => rfl
  | q :: r, acc => by
    show wS (addsW r (addW acc q.1 q.2)) = adds (wS r) (addS (wS acc) q.1 (q.2 : Rat))
    rw [wS_adds r, wS_add]
theorem wk_look (w : Wt) (k : Int) : ((wk w).lookup k).getD (.int 0) = .int (valW w k) := by
  rw [wk_lookup]
  unfold valW
  cases w.lookup k <;> rfl
/-- the loop of mapped -/
theorem map_loop (pairs : Wt) (x0 x1 : Sl) (bs : Wt) (hb : ∀ q ∈ bs, q.1 ∈ pairs.map (·.1)) (pd : (pairs.map (·.1)).Nodup) (acc : Wt) (x4 x5 x6 : Sl) (len : acc.length + bs.length ≤ 500) :
    ∃ t4 t5, forL (fun d ρ1 => (bindP (.cons (.v 4) (.cons (.v 5) .nil)) d ρ1).bind fun ρ2 => evSs (Gk (pl "mapped" + 1)) (.cons (.put 3 (.ix (.v 2) (.v 4)) (.op .add (.oget 3 (.ix (.v 2) (.v 4)) (.int 0)) (.v 5))) .nil) ρ2)
      (bs.map prD) [x0, x1, .fz (wD pairs), .ow (wD acc), x4, x5, x6] = some (.nx [x0, x1, .fz (wD pairs), .ow (wD (addsW (bs.map fun q => (valW pairs q.1, q.2)) acc)), t4, t5, x6]) := by
  induction bs generalizing acc x4 x5 with
  | nil => exact ⟨x4, x5, rfl⟩
  | cons q r ih =>
    have hq := hb q List.mem_cons_self
    have hr : ∀ x ∈ r, x.1 ∈ pairs.map (·.1) := fun x hx => hb x (List.mem_cons_of_mem _ hx)
    obtain ⟨v, hv⟩ := lookup_of_mem hq
    have ev_ : valW pairs q.1 = v := by unfold valW; rw [hv]; rfl
    have e1 : ixD (Gk (pl "mapped" + 1)).tups (wD pairs) (.int q.1) = some (.int v) := by
      simp only [ixD, wD, getK_ints, wk_lookup, hv, Option.map_some, Option.bind_some, id]
    have e2 : dget (Gk (pl "mapped" + 1)).tups (wD acc) (.int v) (.int 0) = some (.int (valW acc v)) := by
      unfold wD
      rw [oget_ints, wk_look]
    have e3 : dputD (Gk (pl "mapped" + 1)).tups (wD acc) (.int v) (.int (valW acc v + q.2)) = some (wD (addW acc v q.2)) := by
      unfold wD
      rw [dput_ints (by simp [wk] at len ⊢; omega)]
      unfold wk addW
      rw [putI_map]
    rw [List.map_cons, forL_cons]
    have step : (bindP (.cons (.v 4) (.cons (.v 5) .nil)) (prD q) [x0, x1, .fz (wD pairs), .ow (wD acc), x4, x5, x6]).bind (fun ρ2 => evSs (Gk (pl "mapped" + 1)) (.cons (.put 3 (.ix (.v 2) (.v 4)) (.op .add (.oget 3 (.ix (.v 2) (.v 4)) (.int 0)) (.v 5))) .nil) ρ2) = some (.nx [x0, x1, .fz (wD pairs), .ow (wD (addW acc v q.2)), .fz (.int q.1), .fz (.int q.2), x6]) := by
      unfold prD
      simp [-List.map_map, xcall, xv, xnon, xbl, xint, xstr, xg, xop, xcmp, xchain, xisN, xnotN, xand, xor, xnot, xite, xbi, xisi, xtup, xlst, xix, xsl, xrev, xget, xlvals, xoget, xolen, evs, evO, evC, evS, evSs, evR, bindP, unpD, freeze, wipeE, En.get, En.own, asB, asI, isNo, e1, e2, e3, add_i]
    rw [step, Option.bind_some]
    have hlen : (addW acc v q.2).length ≤ acc.length + 1 := by
      unfold addW putI
      split
      · simp
      · simp
    obtain ⟨t4, t5, h⟩ := ih hr (addW acc v q.2) (.fz (.int q.1)) (.fz (.int q.2)) (by simp at len; omega)
    refine ⟨t4, t5, ?_⟩
    rw [List.map_cons, ev_]
    exact h
theorem a_byv {w pairs : Wt} (pn : pairs ≠ []) (pd : (pairs.map (·.1)).Nodup) (hb : ∀ q ∈ w, q.1 ∈ pairs.map (·.1)) : ∀ k, k ≤ pl "_by_values" → ap (Gk k) "_by_values" [spD w, rowsD pairs] = some (wD pairs) := by
  refine at_ rfl rfl ?_
  refine run_of (ρ := [.fz (spD w), .fz (rowsD pairs), .un, .un, .un, .un]) rfl rfl ?_
  unfold K22.f__by_values K22.b__by_values
  have c1 := a_pairs (pairs.map fun q => (PyData.int q.1, PyData.int q.2)) _ (show pl "_by_values" + 1 ≤ pl "are_pairs" by decide +kernel)
  rw [List.map_map] at c1
  have c1 : ap (Gk (pl "_by_values" + 1)) "are_pairs" [rowsD pairs] = some (.bool true) := c1
  have c2 := ev_all (G := Gk (pl "_by_values" + 1)) (own := [3]) (e := .call "is_value" (.cons (.ix (.v 3) (.int 0)) .nil)) (p := .v 3) (it := .seq (.v 1)) (ρ := [.fz (spD w), .fz (rowsD pairs), .un, .un, .un, .un]) (g := prD) (bs := pairs) rfl fun b hb' => by
    have f1 := a_val b.1 _ (show pl "_by_values" + 1 ≤ pl "is_value" by decide +kernel)
    unfold stepL
    simp [-List.map_map, xcall, xv, xnon, xbl, xint, xstr, xg, xop, xcmp, xchain, xisN, xnotN, xand, xor, xnot, xite, xbi, xisi, xtup, xlst, xix, xsl, xrev, xget, xlvals, xoget, xolen, evs, evO, evC, evS, evSs, evR, bindP, unpD, freeze, wipeE, En.get, En.own, asB, asI, isNo, f1, pr0]
  rw [evSs_nx (ρ' := [.fz (spD w), .fz (rowsD pairs), .un, .un, .un, .un]) (by simp [-List.map_map, xcall, xv, xnon, xbl, xint, xstr, xg, xop, xcmp, xchain, xisN, xnotN, xand, xor, xnot, xite, xbi, xisi, xtup, xlst, xix, xsl, xrev, xget, xlvals, xoget, xolen, evs, evO, evC, evS, evSs, evR, bindP, unpD, freeze, wipeE, En.get, En.own, asB, asI, isNo, c1, c2])]
  have c3 := dict_rows (T := (Gk (pl "_by_values" + 1)).tups) pn pd
  rw [evSs_nx (ρ' := [.fz (spD w), .fz (rowsD pairs), .fz (wD pairs), .un, .un, .un]) (by simp [-List.map_map, xcall, xv, xnon, xbl, xint, xstr, xg, xop, xcmp, xchain, xisN, xnotN, xand, xor, xnot, xite, xbi, xisi, xtup, xlst, xix, xsl, xrev, xget, xlvals, xoget, xolen, evs, evO, evC, evS, evSs, evR, bindP, unpD, freeze, wipeE, En.get, En.own, asB, asI, isNo, c3])]
  have c4 := len_dict_ev (T := (Gk (pl "_by_values" + 1)).tups) pairs
  have c5 : biD (Gk (pl "_by_values" + 1)).tups .len [rowsD pairs] = some (.int pairs.length) := by simp [biD, rowsD]
  have c6 : cmpD (Gk (pl "_by_values" + 1)).tups .lt (.int (pairs.length : Int)) (.int (pairs.length : Int)) = some false := by simp [cmpD, ltD]
  have c7 := ev_all (G := Gk (pl "_by_values" + 1)) (own := [4, 5]) (e := .cmp .isin (.v 4) (.v 2)) (p := .cons (.v 4) (.cons (.v 5) .nil)) (it := .seq (.ix (.v 0) (.int 1))) (ρ := [.fz (spD w), .fz (rowsD pairs), .fz (wD pairs), .un, .un, .un]) (g := prD) (bs := w) rfl fun b hb' => by
    obtain ⟨v, hv⟩ := lookup_of_mem (hb b hb')
    have f1 : cmpD (Gk (pl "_by_values" + 1)).tups .isin (.int b.1) (wD pairs) = some true := by
      simp only [cmpD, wD, getK_ints, wk_lookup, hv, Option.map_some, Option.isSome_some]
    unfold stepL prD
    simp [-List.map_map, xcall, xv, xnon, xbl, xint, xstr, xg, xop, xcmp, xchain, xisN, xnotN, xand, xor, xnot, xite, xbi, xisi, xtup, xlst, xix, xsl, xrev, xget, xlvals, xoget, xolen, evs, evO, evC, evS, evSs, evR, bindP, unpD, freeze, wipeE, En.get, En.own, asB, asI, isNo, f1]
  rw [evSs_nx (ρ' := [.fz (spD w), .fz (rowsD pairs), .fz (wD pairs), .un, .un, .un]) (by simp [-List.map_map, xcall, xv, xnon, xbl, xint, xstr, xg, xop, xcmp, xchain, xisN, xnotN, xand, xor, xnot, xite, xbi, xisi, xtup, xlst, xix, xsl, xrev, xget, xlvals, xoget, xolen, evs, evO, evC, evS, evSs, evR, bindP, unpD, freeze, wipeE, En.get, En.own, asB, asI, isNo, c4, c5, c6, c7])]
  refine evSs_rt ?_
  simp [-List.map_map, xcall, xv, xnon, xbl, xint, xstr, xg, xop, xcmp, xchain, xisN, xnotN, xand, xor, xnot, xite, xbi, xisi, xtup, xlst, xix, xsl, xrev, xget, xlvals, xoget, xolen, evs, evO, evC, evS, evSs, evR, bindP, unpD, freeze, wipeE, En.get, En.own, asB, asI, isNo]
theorem a_mapped {w pairs : Wt} {M : Nat} (hM : 0 < M) (hM1 : M < 2 ^ 64) (s : Sp w M) (pn : pairs ≠ []) (pd : (pairs.map (·.1)).Nodup) (pk : ∀ q ∈ pairs, -30 ≤ q.2 ∧ q.2 < 30) (hb : ∀ q ∈ w, q.1 ∈ pairs.map (·.1)) :
    ∃ w', Sp w' M ∧ (∀ k, pr w' k = smR 60 fun j => if valW pairs j = k then pr w j else 0) ∧ ∀ k, k ≤ pl "mapped" → ap (Gk k) "mapped" [spD w, rowsD pairs] = some (spD w') := by
  have hL : ∀ q ∈ wS (w.map fun q => (valW pairs q.1, q.2)), -30 ≤ q.1 ∧ q.1 < 30 := fun q hq => by
    obtain ⟨x, hx, e⟩ := List.mem_map.mp hq
    obtain ⟨y, hy, e2⟩ := List.mem_map.mp hx
    subst e2
    subst e
    obtain ⟨v, hv⟩ := lookup_of_mem (hb y hy)
    have : valW pairs y.1 = v := by unfold valW; rw [hv]; rfl
    simp only [this]
    exact pk _ ((lookup_mem_iff pd).mp hv)
  have eS := wS_adds (w.map fun q => (valW pairs q.1, q.2)) []
  generalize hacc : addsW (w.map fun q => (valW pairs q.1, q.2)) [] = acc at eS
  have nd : (acc.map (·.1)).Nodup := by
    rw [← wS_keys, eS]
    exact adds_nd _ (by simp [wS])
  have ks : ∀ k : Int, k ∈ acc.map (·.1) → -30 ≤ k ∧ k < 30 := by
    rw [← wS_keys, eS]
    exact adds_keys (P := fun k => -30 ≤ k ∧ k < 30) _ hL (by simp [wS])
  have hv : ∀ k, (valW acc k : Rat) = sumAt (wS (w.map fun q => (valW pairs q.1, q.2))) k := fun k => by
    rw [← wS_val, eS, adds_val]
    show (0 : Rat) + _ = _
    grind
  have ht : tot acc = tot w := by
    have : (tot acc : Rat) = (tot w : Rat) := by
      rw [← wS_tot, eS, adds_tot _ (by simp [wS]), wS_tot, wS_tot]
      have e2 : tot (w.map fun q => (valW pairs q.1, q.2)) = tot w := by
        unfold tot
        rw [List.map_map]
        rfl
      rw [e2]
      have e3 : tot [] = 0 := rfl
      rw [e3]
      push_cast
      grind
    exact_mod_cast this
  have nn : ∀ q ∈ acc, 0 ≤ q.2 := fun q hq => by
    have h1 := (lookup_mem_iff nd (k := q.1) (v := q.2)).mpr hq
    have h2 : valW acc q.1 = q.2 := by unfold valW; rw [h1]; rfl
    have h3 := hv q.1
    rw [h2] at h3
    have h4 : (0 : Rat) ≤ (q.2 : Rat) := by
      rw [h3]
      refine sum_nn fun y hy => ?_
      obtain ⟨x, hx, e⟩ := List.mem_map.mp hy
      obtain ⟨z, hz, e2⟩ := List.mem_map.mp hx
      obtain ⟨u, hu, e3⟩ := List.mem_map.mp hz
      subst e
      have := s.vs.pos u hu
      subst e3
      subst e2
      simp only
      split
      · exact_mod_cast (show (0 : Int) ≤ u.2 by omega)
      · decide
    exact_mod_cast h4
  obtain ⟨sp, hp, hq⟩ := nrm_sp nd ks nn (by rw [ht]; exact s.vs.tp) (by rw [ht]; exact s.dv)
  have vb : ∀ q ∈ acc, q.2.natAbs < 2 ^ 64 := fun q hq' => by
    have h0 := nn q hq'
    have : ∀ l : Wt, (∀ q ∈ l, 0 ≤ q.2) → ∀ q ∈ l, q.2 ≤ tot l := by
      intro l
      induction l with
      | nil => intro _ q h; cases h
      | cons x r ih =>
        intro h q hq
        have h0 := h x List.mem_cons_self
        have h1 : ∀ y ∈ r, 0 ≤ y.2 := fun y hy => h y (List.mem_cons_of_mem _ hy)
        have h2 : 0 ≤ tot r := by
          clear ih hq h
          induction r with
          | nil => simp [tot]
          | cons y r ih =>
            have a := h1 y List.mem_cons_self
            have b := ih fun z hz => h1 z (List.mem_cons_of_mem _ hz)
            simp only [tot, List.map_cons, List.sum_cons] at b ⊢
            omega
        have e2 : tot (x :: r) = x.2 + tot r := by simp only [List.map_cons, tot, List.sum_cons]
        rcases List.mem_cons.mp hq with e | e
        · subst e; omega
        · have := ih h1 q e
          omega
    have h1 := this acc nn q hq'
    rw [ht] at h1
    have h2 := Nat.le_of_dvd hM s.dv
    have h3 := s.vs.tp
    omega
  refine ⟨nrm acc, sp, fun k => ?_, at_ rfl rfl ?_⟩
  · rw [hp, hv, ht]
    have t0 := s.vs.t0
    have e1 : sumAt (wS (w.map fun q => (valW pairs q.1, q.2))) k = ((tot w : Int) : Rat) * ((rwS w).map fun q => if valW pairs q.1 = k then q.2 else 0).sum := by
      rw [← sum_mul_r]
      unfold sumAt wS rwS
      rw [List.map_map, List.map_map, List.map_map]
      congr 1
      refine List.map_congr_left fun q hq => ?_
      simp only [Function.comp]
      split
      · rw [Rat.mkRat_eq_div, s.vs.tr]
        grind
      · grind
    rw [e1]
    have e2 : ((rwS w).map fun q => if valW pairs q.1 = k then q.2 else 0).sum = smR 60 fun j => if valW pairs j = k then pr w j else 0 := by
      have e3 : ((rwS w).map fun q => if valW pairs q.1 = k then q.2 else 0) = ((rwS w).map fun q => (q.1, if valW pairs q.1 = k then pr w q.1 else 0)).map (·.2) := by
        rw [List.map_map]
        refine List.map_congr_left fun q hq => ?_
        simp only [Function.comp, rwS_pr s.vs q hq]
      rw [e3, ← smR_keys (n := 60) (fun _ _ r => r) _ (fun q hq => by
        obtain ⟨x, hx, e⟩ := List.mem_map.mp hq
        subst e
        exact s.ks x.1 (by rw [← rwS_keys]; exact List.mem_map_of_mem hx))]
      refine smR_congr fun j _ _ => ?_
      have nd : (((rwS w).map fun q => (q.1, if valW pairs q.1 = k then pr w q.1 else 0)).map (·.1)).Nodup := by
        rw [List.map_map]
        show ((rwS w).map (·.1)).Nodup
        rw [rwS_keys]
        exact s.vs.nd
      have h1 := sumAt_val nd j
      unfold sumAt at h1
      rw [h1]
      by_cases hj : j ∈ w.map (·.1)
      · have hk : j ∈ (((rwS w).map fun q => (q.1, if valW pairs q.1 = k then pr w q.1 else 0)).map (·.1)) := by
          rw [List.map_map]
          show j ∈ (rwS w).map (·.1)
          rw [rwS_keys]
          exact hj
        obtain ⟨x, hx, e⟩ := List.mem_map.mp (valS_mem hk)
        have e1 := congrArg Prod.fst e
        have e2 := congrArg Prod.snd e
        simp only at e1 e2
        rw [← e2, e1]
      · rw [valS_none (by
          rw [List.map_map]
          show j ∉ (rwS w).map (·.1)
          rw [rwS_keys]
          exact hj), pr_none hj]
        split <;> rfl
    rw [e2]
    grind
  · have c1 := a_check s.vs _ (show pl "mapped" + 1 ≤ pl "check_spread" by decide +kernel)
    have c2 := a_byv pn pd hb _ (show pl "mapped" + 1 ≤ pl "_by_values" by decide +kernel)
    refine run_of (ρ := [.fz (spD w), .fz (rowsD pairs), .un, .un, .un, .un, .un]) rfl rfl ?_
    unfold K22.f_mapped K22.b_mapped
    rw [evSs_nx (ρ' := [.fz (spD w), .fz (rowsD pairs), .un, .un, .un, .un, .un]) (by simp [-List.map_map, xcall, xv, xnon, xbl, xint, xstr, xg, xop, xcmp, xchain, xisN, xnotN, xand, xor, xnot, xite, xbi, xisi, xtup, xlst, xix, xsl, xrev, xget, xlvals, xoget, xolen, evs, evO, evC, evS, evSs, evR, bindP, unpD, freeze, wipeE, En.get, En.own, asB, asI, isNo, c1])]
    rw [evSs_nx (ρ' := [.fz (spD w), .fz (rowsD pairs), .fz (wD pairs), .un, .un, .un, .un]) (by simp [-List.map_map, xcall, xv, xnon, xbl, xint, xstr, xg, xop, xcmp, xchain, xisN, xnotN, xand, xor, xnot, xite, xbi, xisi, xtup, xlst, xix, xsl, xrev, xget, xlvals, xoget, xolen, evs, evO, evC, evS, evSs, evR, bindP, unpD, freeze, wipeE, En.get, En.own, asB, asI, isNo, c2])]
    have c3 := ev_all (G := Gk (pl "mapped" + 1)) (own := [6]) (e := .call "is_value" (.cons (.v 6) .nil)) (p := .v 6) (it := .vals (.v 2)) (ρ := [.fz (spD w), .fz (rowsD pairs), .fz (wD pairs), .un, .un, .un, .un]) (g := PyData.int) (bs := pairs.map (·.2)) (by unfold evI; simp [-List.map_map, xcall, xv, xnon, xbl, xint, xstr, xg, xop, xcmp, xchain, xisN, xnotN, xand, xor, xnot, xite, xbi, xisi, xtup, xlst, xix, xsl, xrev, xget, xlvals, xoget, xolen, evs, evO, evC, evS, evSs, evR, bindP, unpD, freeze, wipeE, En.get, En.own, asB, asI, isNo, vals_wD]) fun b _ => by
      have f1 := a_val b _ (show pl "mapped" + 1 ≤ pl "is_value" by decide +kernel)
      unfold stepL
      simp [-List.map_map, xcall, xv, xnon, xbl, xint, xstr, xg, xop, xcmp, xchain, xisN, xnotN, xand, xor, xnot, xite, xbi, xisi, xtup, xlst, xix, xsl, xrev, xget, xlvals, xoget, xolen, evs, evO, evC, evS, evSs, evR, bindP, unpD, freeze, wipeE, En.get, En.own, asB, asI, isNo, f1]
    have c4 := a_sort (pairs.map (·.2)) _ (show pl "mapped" + 1 ≤ pl "are_of_one_sort" by decide +kernel)
    rw [evSs_nx (ρ' := [.fz (spD w), .fz (rowsD pairs), .fz (wD pairs), .un, .un, .un, .un]) (by simp [-List.map_map, xcall, xv, xnon, xbl, xint, xstr, xg, xop, xcmp, xchain, xisN, xnotN, xand, xor, xnot, xite, xbi, xisi, xtup, xlst, xix, xsl, xrev, xget, xlvals, xoget, xolen, evs, evO, evC, evS, evSs, evR, bindP, unpD, freeze, wipeE, En.get, En.own, asB, asI, isNo, c3, c4, lvals_wD])]
    rw [evSs_nx (ρ' := [.fz (spD w), .fz (rowsD pairs), .fz (wD pairs), .ow (wD []), .un, .un, .un]) (by rfl)]
    obtain ⟨t4, t5, h⟩ := map_loop pairs (.fz (spD w)) (.fz (rowsD pairs)) w hb pd [] .un .un .un (by have := s.len; simp; omega)
    have it : evI (Gk (pl "mapped" + 1)) (.seq (.ix (.v 0) (.int 1))) [.fz (spD w), .fz (rowsD pairs), .fz (wD pairs), .ow (wD []), .un, .un, .un] = some (w.map prD) := by rfl
    rw [evSs_nx (evS_for it h), hacc]
    have len : acc.length ≤ 60 := by simpa using len60 nd ks
    have c5 := a_sow acc nd (by omega) hq (fun q hq => Nat.lt_trans (vb q hq) (by decide)) _ (show pl "mapped" + 1 ≤ pl "spread_of_weights" by decide +kernel)
    refine evSs_rt ?_
    simp [-List.map_map, xcall, xv, xnon, xbl, xint, xstr, xg, xop, xcmp, xchain, xisN, xnotN, xand, xor, xnot, xite, xbi, xisi, xtup, xlst, xix, xsl, xrev, xget, xlvals, xoget, xolen, evs, evO, evC, evS, evSs, evR, bindP, unpD, freeze, wipeE, En.get, En.own, asB, asI, isNo, c5]
end PL


set_option Elab.async false
set_option linter.all false
set_option maxRecDepth 100000
set_option exponentiation.threshold 20000
/-! MY: the greatest ratio, where the other one has all values of the one. -/
namespace PL
open PySem
theorem mkRat_ratio {a b c d : Int} (hb : 0 < b) (hc : 0 < c) (hd : 0 < d) : mkRat (a * d) (c * b).toNat = ((a : Rat) / (b : Rat)) / ((c : Rat) / (d : Rat)) := by
  have hbn : (b : Rat) ≠ 0 := by exact_mod_cast (Int.ne_of_gt hb)
  have hcn : (c : Rat) ≠ 0 := by exact_mod_cast (Int.ne_of_gt hc)
  have hdn : (d : Rat) ≠ 0 := by exact_mod_cast (Int.ne_of_gt hd)
  have h0 : 0 ≤ c * b := Int.le_of_lt (Int.mul_pos hc hb)
  rw [Rat.mkRat_eq_div]
  have e : (((c * b).toNat : Nat) : Rat) = (c : Rat) * (b : Rat) := by
    rw [← Rat.intCast_natCast, Int.toNat_of_nonneg h0, Rat.intCast_mul]
  rw [e, Rat.intCast_mul]
  grind
def rtR (two : Wt) (q : Int × Rat) : Int × Rat := (q.1, q.2 / pr two q.1)
/-- the ratios -/
def rtS (one two : Wt) : Sh := (rwS one).map (rtR two)
theorem tot_bd {w : Wt} {M : Nat} (hM : 0 < M) (s : Sp w M) : 0 < tot w ∧ (tot w).natAbs ≤ M := by
  have h1 := s.vs.tp
  have h2 := Nat.le_of_dvd hM s.dv
  omega
theorem mem_le_tot {w : Wt} (v : Vs w) {q : Int × Int} (hq : q ∈ w) : 1 ≤ q.2 ∧ q.2 ≤ tot w := by
  refine ⟨v.pos q hq, ?_⟩
  have h := pr_le v q.1
  rw [← pr_mem v hq, Rat.mkRat_eq_div, v.tr] at h
  have ht : (0 : Rat) < ((tot w : Int) : Rat) := by have := v.tp; exact_mod_cast this
  have h2 : (q.2 : Rat) ≤ (tot w : Rat) := by
    have := Rat.mul_le_mul_of_nonneg_right h (Rat.le_of_lt ht)
    have t0 := v.t0
    have e : (q.2 : Rat) / (tot w : Rat) * (tot w : Rat) = q.2 := by grind
    rw [e] at this
    grind
  exact_mod_cast h2
theorem rt_same {one two : Wt} (v : Vs one) : (one.map fun q => (q.1, pr one q.1 / pr two q.1)) = rtS one two := by
  unfold rtS rwS
  rw [List.map_map]
  refine List.map_congr_left fun q hq => ?_
  simp only [Function.comp, rtR, pr_mem v hq]
def mxR (a b : Rat) : Rat := if a < b then b else a
def Rt (one two : Wt) : Rat := ((rtS one two).map (·.2)).foldl mxR 0
theorem mx_le : ∀ (l : List Rat) (a : Rat), a ≤ l.foldl mxR a ∧ (∀ r ∈ l, r ≤ l.foldl mxR a) ∧ (l.foldl mxR a = a ∨ l.foldl mxR a ∈ l)
  | [], a => ⟨Rat.le_refl, nofun, .inl rfl⟩
  | x :: t, a => by
    obtain ⟨h1, h2, h3⟩ := mx_le t (mxR a x)
    have ha : a ≤ mxR a x := by unfold mxR; split <;> grind
    have hx : x ≤ mxR a x := by unfold mxR; split <;> grind
    rw [List.foldl_cons]
    refine ⟨Rat.le_trans ha h1, fun r hr => ?_, ?_⟩
    · rcases List.mem_cons.mp hr with e | e
      · subst e; exact Rat.le_trans hx h1
      · exact h2 r e
    · rcases h3 with e | e
      · rw [e]
        unfold mxR
        split
        · exact .inr List.mem_cons_self
        · exact .inl rfl
      · exact .inr (List.mem_cons_of_mem _ e)
theorem rt_mem {one two : Wt} (v : Vs one) {r : Rat} : r ∈ (rtS one two).map (·.2) ↔ ∃ k ∈ one.map (·.1), r = pr one k / pr two k := by
  rw [← rt_same v, List.map_map, List.mem_map]
  constructor
  · rintro ⟨q, hq, e⟩
    exact ⟨q.1, List.mem_map_of_mem hq, e.symm⟩
  · rintro ⟨k, hk, e⟩
    obtain ⟨q, hq, e2⟩ := List.mem_map.mp hk
    subst e2
    exact ⟨q, hq, e.symm⟩
/-- the greatest ratio bounds, and is met -/
theorem Rt_spec {one two : Wt} {M1 M2 : Nat} (s1 : Sp one M1) (s2 : Sp two M2) (sub : ∀ q ∈ one, q.1 ∈ two.map (·.1)) : 0 ≤ Rt one two ∧ (∀ k, pr one k ≤ Rt one two * pr two k) ∧ ∃ k ∈ one.map (·.1), pr one k = Rt one two * pr two k := by
  obtain ⟨h1, h2, h3⟩ := mx_le ((rtS one two).map (·.2)) 0
  have sub' : ∀ k ∈ one.map (·.1), k ∈ two.map (·.1) := fun k hk => by
    obtain ⟨q, hq, e⟩ := List.mem_map.mp hk
    exact e ▸ sub q hq
  have back : ∀ k ∈ one.map (·.1), pr one k / pr two k * pr two k = pr one k := fun k hk => by
    have := pr_pos s2.vs (sub' k hk)
    grind
  refine ⟨h1, fun k => ?_, ?_⟩
  · by_cases hk : k ∈ one.map (·.1)
    · have := h2 _ ((rt_mem s1.vs).mpr ⟨k, hk, rfl⟩)
      rw [← back k hk]
      exact Rat.mul_le_mul_of_nonneg_right this (pr_nn s2.vs k)
    · rw [pr_none hk]
      exact Rat.mul_nonneg h1 (pr_nn s2.vs k)
  · rcases h3 with e | e
    · exfalso
      obtain ⟨q, r, eq⟩ := List.exists_cons_of_ne_nil s1.vs.ne
      have hk : q.1 ∈ one.map (·.1) := by rw [eq]; exact List.mem_cons_self
      have := h2 _ ((rt_mem s1.vs).mpr ⟨q.1, hk, rfl⟩)
      rw [e] at this
      have := div_pos' (pr_pos s1.vs hk) (pr_pos s2.vs (sub' _ hk))
      grind
    · obtain ⟨k, hk, e2⟩ := (rt_mem s1.vs).mp e
      refine ⟨k, hk, ?_⟩
      show _ = List.foldl mxR 0 _ * _
      rw [e2, back k hk]
theorem gr_loop {G : Gb} (hg : ∀ r s : Rat, Sm r → Sm s → ap G "greater_of" [fr r, fr s] = some (fr (mxR r s))) (x0 x1 : Sl) : ∀ (l : List Rat) (a : Rat) (x3 : Sl), Sm a → (∀ r ∈ l, Sm r) → ∃ t3, forL (fun d ρ1 => (bindP (.v 3) d ρ1).bind fun ρ2 => evSs G (.cons (.ife (.isN (.v 3)) (.cons (.ret .non) .nil) .nil) (.cons (.asg (.v 2) (.call "greater_of" (.cons (.v 2) (.cons (.v 3) .nil)))) .nil)) ρ2) (l.map fr) [x0, x1, .fz (fr a), x3] = some (.nx [x0, x1, .fz (fr (l.foldl mxR a)), t3])
  | [], a, x3, _, _ => ⟨x3, rfl⟩
  | r :: l, a, x3, sa, sl => by
    have sr := sl r List.mem_cons_self
    have e := hg a r sa sr
    have sm : Sm (mxR a r) := by unfold mxR; split <;> assumption
    obtain ⟨t3, h⟩ := gr_loop hg x0 x1 l (mxR a r) (.fz (fr r)) sm fun y hy => sl y (List.mem_cons_of_mem _ hy)
    refine ⟨t3, ?_⟩
    rw [List.map_cons, forL_cons]
    have nn : isNo (fr r) = false := rfl
    have step : (bindP (.v 3) (fr r) [x0, x1, .fz (fr a), x3]).bind (fun ρ2 => evSs G (.cons (.ife (.isN (.v 3)) (.cons (.ret .non) .nil) .nil) (.cons (.asg (.v 2) (.call "greater_of" (.cons (.v 2) (.cons (.v 3) .nil)))) .nil)) ρ2) = some (.nx [x0, x1, .fz (fr (mxR a r)), .fz (fr r)]) := by
      unfold fr at e nn ⊢
      simp [-List.map_map, xcall, xv, xnon, xbl, xint, xstr, xg, xop, xcmp, xchain, xisN, xnotN, xand, xor, xnot, xite, xbi, xisi, xtup, xlst, xix, xsl, xrev, xget, xlvals, xoget, xolen, evs, evO, evC, evS, evSs, evR, bindP, unpD, freeze, wipeE, En.get, En.own, asB, asI, isNo, e]
    rw [step, Option.bind_some]
    exact h
end PL


set_option Elab.async false
set_option linter.all false
set_option maxRecDepth 100000
set_option exponentiation.threshold 20000
/-! MZ: the law's own small defs. -/
namespace PL
open PySem
/-- a loop that goes through: with what holds after so many turns -/
theorem forL_ex {step : D → En → Option Out} {P : Nat → En → Prop} : ∀ (ds : List D) (i : Nat) (ρ : En), P i ρ → (∀ j ρ d, d ∈ ds → j < i + ds.length → P j ρ → ∃ ρ', step d ρ = some (.nx ρ') ∧ P (j + 1) ρ') → ∃ ρ', forL step ds ρ = some (.nx ρ') ∧ P (i + ds.length) ρ'
  | [], i, ρ, h, _ => ⟨ρ, rfl, h⟩
  | d :: ds, i, ρ, h, k => by
    obtain ⟨ρ1, h1, h2⟩ := k i ρ d List.mem_cons_self (by simp) h
    obtain ⟨ρ2, h3, h4⟩ := forL_ex ds (i + 1) ρ1 h2 fun j ρ d hd hj => k j ρ d (List.mem_cons_of_mem _ hd) (by rw [List.length_cons]; omega)
    refine ⟨ρ2, ?_, ?_⟩
    · rw [forL_cons, h1, Option.bind_some]
      exact h3
    · rw [List.length_cons, show i + (ds.length + 1) = i + 1 + ds.length by omega]
      exact h4
theorem app_ok {dr : List Int} (h : dr.length < 1000000) (z : Int) : appD (.list (dr.map PyData.int)) (.int z) = some (.list ((dr ++ [z]).map PyData.int)) := by
  simp only [appD, List.length_map]
  rw [if_pos (by unfold szOk sizeLine; exact decide_eq_true (by omega))]
  simp
theorem mod_i {a b : Int} (h : 0 < b) : opD .mod (.int a) (.int b) = some (.int (a % b)) := if_pos h
theorem fdiv_i {a b : Int} (h : 0 < b) (h2 : b.natAbs.log2 < 9000) : opD .fdiv (.int a) (.int b) = some (.int (a / b)) := if_pos ⟨h, h2⟩
theorem i1009 (a : Int) : opD .mod (.int a) (.int 1009) = some (.int (a % 1009)) := rfl
theorem d1009 (a : Int) : opD .fdiv (.int a) (.int 1009) = some (.int (a / 1009)) := fdiv_i (by decide) (by decide)
theorem m31 (a : Int) : opD .mod (.int a) (.int 2147483647) = some (.int (a % 2147483647)) := rfl
theorem m65 (a : Int) : opD .mod (.int a) (.int 65521) = some (.int (a % 65521)) := rfl
theorem d3 (a : Int) : opD .fdiv (.int a) (.int 3) = some (.int (a / 3)) := fdiv_i (by decide) (by decide)
theorem d7 (a : Int) : opD .fdiv (.int a) (.int 7) = some (.int (a / 7)) := fdiv_i (by decide) (by decide)
theorem seed_mul {s c : Int} (h0 : 0 ≤ s) (h1 : s < 2147483647) (c0 : 0 < c) (c1 : c < 2 ^ 20) : opD .mul (.int s) (.int c) = some (.int (s * c)) := mul_ok (n := 32) (m := 20) (by omega) (by omega) (by decide) (by decide) (by decide)
theorem pow18 : opD .pow (.int 10) (.int 18) = some (.int 1000000000000000000) := by
  simp only [opD]
  rw [if_pos (by decide)]
  rfl
theorem ge_int {T : List D} (a b : Int) : cmpD T .ge (.int a) (.int b) = some (decide (b ≤ a)) := rfl
theorem gt_int {T : List D} (a b : Int) : cmpD T .gt (.int a) (.int b) = some (decide (b < a)) := rfl
theorem lt_int {T : List D} (a b : Int) : cmpD T .lt (.int a) (.int b) = some (decide (a < b)) := rfl
theorem abs_int {T : List D} (a : Int) : biD T .abs [.int a] = some (.int (if a < 0 then -a else a)) := rfl
theorem int_int {T : List D} (a : Int) : biD T .int [.int a] = some (.int a) := rfl
theorem cut_ints (l : List Int) (lo hi : Option Int) : ∃ l' : List Int, cutD (l.map PyData.int) lo hi = l'.map PyData.int ∧ l'.length ≤ l.length := by
  refine ⟨(l.drop (HT.sIx l.length 0 lo)).take (HT.sIx l.length l.length hi - HT.sIx l.length 0 lo), ?_, ?_⟩
  · unfold cutD
    rw [List.length_map, List.map_take, List.map_drop]
  · rw [List.length_take, List.length_drop]
    omega
theorem cut_n (l : List Int) (n : Nat) (h : n ≤ l.length) : ∃ l' : List Int, cutD (l.map PyData.int) none (some (n : Int)) = l'.map PyData.int ∧ l'.length = n := by
  refine ⟨l.take n, ?_, by rw [List.length_take]; omega⟩
  unfold cutD
  rw [HT.sIx_none, HT.sIx_nat, List.length_map, Nat.min_eq_left h, List.map_take]
  rfl
section
variable {G : Gb}
theorem draws_in (x0 x1 x3 x4 : Sl) (L : Nat) (hL : L ≤ 10000) (dr : List Int) (hd : dr.length ≤ L) (num : Int) (x6 : Sl) :
    ∃ (dr' : List Int) (n' : Int) (t6 : Sl), dr'.length ≤ L + 60 ∧ forL (fun d ρ1 => (bindP (.v 6) d ρ1).bind fun ρ2 => evSs G (.cons (.ife (.cmp .gt (.v 5) (.int 0)) (.cons (.app 2 (.op .mod (.bi .int (.cons (.v 5) .nil)) (.int 1009))) (.cons (.asg (.v 5) (.op .fdiv (.v 5) (.int 1009))) .nil)) .nil) .nil) ρ2) ((List.range 60).map fun (j : Nat) => .int (j : Int)) [x0, x1, .ow (.list (dr.map PyData.int)), x3, x4, .fz (.int num), x6] = some (.nx [x0, x1, .ow (.list (dr'.map PyData.int)), x3, x4, .fz (.int n'), t6]) := by
  obtain ⟨ρ', h1, dr', n', t6, h2, h3⟩ := forL_ex (P := fun j ρ => ∃ (dr : List Int) (num : Int) (t6 : Sl), ρ = [x0, x1, .ow (.list (dr.map PyData.int)), x3, x4, .fz (.int num), t6] ∧ dr.length ≤ L + j) ((List.range 60).map fun (j : Nat) => .int (j : Int)) 0 _ ⟨dr, num, x6, rfl, by omega⟩ (step := fun d ρ1 => (bindP (.v 6) d ρ1).bind fun ρ2 => evSs G (.cons (.ife (.cmp .gt (.v 5) (.int 0)) (.cons (.app 2 (.op .mod (.bi .int (.cons (.v 5) .nil)) (.int 1009))) (.cons (.asg (.v 5) (.op .fdiv (.v 5) (.int 1009))) .nil)) .nil) .nil) ρ2) (by
    rintro j ρ d hd' hj ⟨dr, num, t6, rfl, hl⟩
    simp only [List.length_map, List.length_range] at hj
    have g := gt_int (T := G.tups) num 0
    by_cases h : 0 < num
    · rw [decide_eq_true h] at g
      have a := app_ok (dr := dr) (by omega) (num % 1009)
      exact ⟨[x0, x1, .ow (.list ((dr ++ [num % 1009]).map PyData.int)), x3, x4, .fz (.int (num / 1009)), .fz d], by simp [-List.map_map, xcall, xv, xnon, xbl, xint, xstr, xg, xop, xcmp, xchain, xisN, xnotN, xand, xor, xnot, xite, xbi, xisi, xtup, xlst, xix, xsl, xrev, xget, xlvals, xoget, xolen, evs, evO, evC, evS, evSs, evR, bindP, unpD, freeze, wipeE, En.get, En.own, asB, asI, isNo, g, int_int, i1009, d1009, a], _, _, _, rfl, by simp; omega⟩
    · rw [decide_eq_false h] at g
      exact ⟨[x0, x1, .ow (.list (dr.map PyData.int)), x3, x4, .fz (.int num), .fz d], by simp [-List.map_map, xcall, xv, xnon, xbl, xint, xstr, xg, xop, xcmp, xchain, xisN, xnotN, xand, xor, xnot, xite, xbi, xisi, xtup, xlst, xix, xsl, xrev, xget, xlvals, xoget, xolen, evs, evO, evC, evS, evSs, evR, bindP, unpD, freeze, wipeE, En.get, En.own, asB, asI, isNo, g], _, _, _, rfl, by omega⟩)
  subst h2
  exact ⟨dr', n', t6, by simpa using h3, h1⟩
end
theorem a_draws {ns : List Int} (hn : ns.length ≤ 63) {n : Nat} (h1000 : n ≤ 1000) : ∃ ds : List Int, ds.length = n ∧ ∀ k, k ≤ pl "_law_draws" → ap (Gk k) "_law_draws" [.list (ns.map PyData.int), .int (n : Int)] = some (.list (ds.map PyData.int)) := by
  obtain ⟨cs, hc1, hc2⟩ := cut_ints ns none (some (63 : Int))
  have c1 : slD (.list (ns.map PyData.int)) none (some 63) = some (.list (cs.map PyData.int)) := by
    show some (PyData.list (cutD _ none (some 63))) = _
    rw [hc1]
  -- the first loop
  obtain ⟨ρ1, h1, dr1, sd1, t4, t5, t6, e1, s0, s1, l1⟩ := forL_ex (P := fun j ρ => ∃ (dr : List Int) (sd : Int) (t4 t5 t6 : Sl), ρ = [.fz (.list (ns.map PyData.int)), .fz (.int (n : Int)), .ow (.list (dr.map PyData.int)), .fz (.int sd), t4, t5, t6] ∧ 0 ≤ sd ∧ sd < 2147483647 ∧ dr.length ≤ 60 * j) (cs.map PyData.int) 0 _ ⟨[], 7, .un, .un, .un, rfl, by decide, by decide, by simp⟩ (step := fun d ρ1 => (bindP (.v 4) d ρ1).bind fun ρ2 => evSs (Gk (pl "_law_draws" + 1)) (.cons (.asg (.v 5) (.bi .abs (.cons (.v 4) .nil))) (.cons (.asg (.v 3) (.op .mod (.bi .int (.cons (.op .add (.op .add (.op .mul (.v 3) (.int 48271)) (.v 5)) (.int 11)) .nil)) (.int 2147483647))) (.cons (.ife (.cmp .ge (.v 5) (.op .pow (.int 10) (.int 18))) (.cons (.for_ (.v 6) (.rng1 (.int 60)) (.cons (.ife (.cmp .gt (.v 5) (.int 0)) (.cons (.app 2 (.op .mod (.bi .int (.cons (.v 5) .nil)) (.int 1009))) (.cons (.asg (.v 5) (.op .fdiv (.v 5) (.int 1009))) .nil)) .nil) .nil)) .nil) (.cons (.app 2 (.op .mod (.op .fdiv (.bi .int (.cons (.op .add (.op .mul (.v 3) (.int 16807)) (.int 5)) .nil)) (.int 3)) (.int 65521))) .nil)) .nil))) ρ2) (by
    rintro j ρ d hd hj ⟨dr, sd, t4, t5, t6, rfl, s0, s1, hl⟩
    obtain ⟨z, _, rfl⟩ := List.mem_map.mp hd
    simp only [List.length_map] at hj
    have m1 := seed_mul s0 s1 (c := 48271) (by decide) (by decide)
    generalize hab : (if z < 0 then -z else z) = ab
    have a1 := abs_int (T := (Gk (pl "_law_draws" + 1)).tups) z
    rw [hab] at a1
    generalize hs : (sd * 48271 + ab + 11) % 2147483647 = sd'
    have s0' : 0 ≤ sd' := by omega
    have s1' : sd' < 2147483647 := by omega
    have m2 := seed_mul s0' s1' (c := 16807) (by decide) (by decide)
    have g := ge_int (T := (Gk (pl "_law_draws" + 1)).tups) ab 1000000000000000000
    simp only [bindP, Option.bind_some, List.set_cons_succ, List.set_cons_zero]
    rw [evSs_nx (ρ' := [.fz (.list (ns.map PyData.int)), .fz (.int (n : Int)), .ow (.list (dr.map PyData.int)), .fz (.int sd), .fz (.int z), .fz (.int ab), t6]) (by simp [-List.map_map, xcall, xv, xnon, xbl, xint, xstr, xg, xop, xcmp, xchain, xisN, xnotN, xand, xor, xnot, xite, xbi, xisi, xtup, xlst, xix, xsl, xrev, xget, xlvals, xoget, xolen, evs, evO, evC, evS, evSs, evR, bindP, unpD, freeze, wipeE, En.get, En.own, asB, asI, isNo, a1])]
    rw [evSs_nx (ρ' := [.fz (.list (ns.map PyData.int)), .fz (.int (n : Int)), .ow (.list (dr.map PyData.int)), .fz (.int sd'), .fz (.int z), .fz (.int ab), t6]) (by simp [-List.map_map, xcall, xv, xnon, xbl, xint, xstr, xg, xop, xcmp, xchain, xisN, xnotN, xand, xor, xnot, xite, xbi, xisi, xtup, xlst, xix, xsl, xrev, xget, xlvals, xoget, xolen, evs, evO, evC, evS, evSs, evR, bindP, unpD, freeze, wipeE, En.get, En.own, asB, asI, isNo, m1, add_i, int_int, m31, hs])]
    by_cases h : (1000000000000000000 : Int) ≤ ab
    · rw [decide_eq_true h] at g
      obtain ⟨dr', n', u6, l', hf⟩ := draws_in (G := Gk (pl "_law_draws" + 1)) (.fz (.list (ns.map PyData.int))) (.fz (.int (n : Int))) (.fz (.int sd')) (.fz (.int z)) (60 * j) (by omega) dr hl ab t6
      have it : evI (Gk (pl "_law_draws" + 1)) (.rng1 (.int 60)) [.fz (.list (ns.map PyData.int)), .fz (.int (n : Int)), .ow (.list (dr.map PyData.int)), .fz (.int sd'), .fz (.int z), .fz (.int ab), t6] = some ((List.range 60).map fun (j : Nat) => .int (j : Int)) := ev_rng (by rw [xint]; rfl) (by decide)
      have ef := evSs_nx (G := Gk (pl "_law_draws" + 1)) (ss := .nil) (evS_for it hf)
      refine ⟨_, ?_, dr', sd', .fz (.int z), .fz (.int n'), u6, rfl, s0', s1', by omega⟩
      refine Eq.trans (evSs_nx (ρ' := [.fz (.list (ns.map PyData.int)), .fz (.int (n : Int)), .ow (.list (dr'.map PyData.int)), .fz (.int sd'), .fz (.int z), .fz (.int n'), u6]) ?_) rfl
      have ec : asB (ev (Gk (pl "_law_draws" + 1)) (.cmp .ge (.v 5) (.op .pow (.int 10) (.int 18))) [.fz (.list (ns.map PyData.int)), .fz (.int (n : Int)), .ow (.list (dr.map PyData.int)), .fz (.int sd'), .fz (.int z), .fz (.int ab), t6]) = some true := by
        simp [-List.map_map, xcall, xv, xnon, xbl, xint, xstr, xg, xop, xcmp, xchain, xisN, xnotN, xand, xor, xnot, xite, xbi, xisi, xtup, xlst, xix, xsl, xrev, xget, xlvals, xoget, xolen, evs, evO, evC, evS, evSs, evR, bindP, unpD, freeze, wipeE, En.get, En.own, asB, asI, isNo, pow18, g]
      unfold evS
      rw [ec]
      simp only [Option.bind_some, if_true]
      rw [ef]
      rfl
    · rw [decide_eq_false h] at g
      have a2 := app_ok (dr := dr) (by omega) ((sd' * 16807 + 5) / 3 % 65521)
      refine ⟨_, ?_, dr ++ [(sd' * 16807 + 5) / 3 % 65521], sd', .fz (.int z), .fz (.int ab), t6, rfl, s0', s1', by simp; omega⟩
      simp [-List.map_map, xcall, xv, xnon, xbl, xint, xstr, xg, xop, xcmp, xchain, xisN, xnotN, xand, xor, xnot, xite, xbi, xisi, xtup, xlst, xix, xsl, xrev, xget, xlvals, xoget, xolen, evs, evO, evC, evS, evSs, evR, bindP, unpD, freeze, wipeE, En.get, En.own, asB, asI, isNo, pow18, g, m2, add_i, int_int, d3, m65, a2])
  subst e1
  simp only [List.length_map, Nat.zero_add] at l1
  -- the second loop
  obtain ⟨ρ2, h2, dr2, sd2, u4, u5, u6, e2, s2, s3, l2, l3⟩ := forL_ex (P := fun j ρ => ∃ (dr : List Int) (sd : Int) (t4 t5 t6 : Sl), ρ = [.fz (.list (ns.map PyData.int)), .fz (.int (n : Int)), .ow (.list (dr.map PyData.int)), .fz (.int sd), t4, t5, t6] ∧ 0 ≤ sd ∧ sd < 2147483647 ∧ dr.length ≤ 3780 + j ∧ (j ≤ dr.length ∨ n ≤ dr.length)) ((List.range n).map fun (j : Nat) => PyData.int (j : Int)) 0 _ ⟨dr1, sd1, t4, t5, t6, rfl, s0, s1, by omega, .inl (by omega)⟩ (step := fun d ρ1 => (bindP (.v 6) d ρ1).bind fun ρ2 => evSs (Gk (pl "_law_draws" + 1)) (.cons (.ife (.cmp .lt (.olen 2) (.v 1)) (.cons (.asg (.v 3) (.op .mod (.bi .int (.cons (.op .add (.op .add (.op .mul (.v 3) (.int 69621)) (.v 6)) (.int 1)) .nil)) (.int 2147483647))) (.cons (.app 2 (.op .mod (.op .fdiv (.bi .int (.cons (.v 3) .nil)) (.int 7)) (.int 65521))) .nil)) .nil) .nil) ρ2) (by
    rintro j ρ d hd hj ⟨dr, sd, t4, t5, t6, rfl, s0, s1, hl, hj2⟩
    obtain ⟨z, _, rfl⟩ := List.mem_map.mp hd
    simp only [List.length_map, List.length_range] at hj
    have m1 := seed_mul s0 s1 (c := 69621) (by decide) (by decide)
    have g := lt_int (T := (Gk (pl "_law_draws" + 1)).tups) (dr.length : Int) (n : Int)
    have ol : olenD (.list (dr.map PyData.int)) = some (.int (dr.length : Int)) := by simp [olenD]
    by_cases h : (dr.length : Int) < (n : Int)
    · rw [decide_eq_true h] at g
      have s0' : 0 ≤ (sd * 69621 + (z : Int) + 1) % 2147483647 := by omega
      have s1' : (sd * 69621 + (z : Int) + 1) % 2147483647 < 2147483647 := by omega
      have a2 := app_ok (dr := dr) (by omega) ((sd * 69621 + (z : Int) + 1) % 2147483647 / 7 % 65521)
      refine ⟨_, ?_, dr ++ [(sd * 69621 + (z : Int) + 1) % 2147483647 / 7 % 65521], (sd * 69621 + (z : Int) + 1) % 2147483647, t4, t5, .fz (.int (z : Int)), rfl, s0', s1', by simp; omega, by simp; omega⟩
      simp [-List.map_map, xcall, xv, xnon, xbl, xint, xstr, xg, xop, xcmp, xchain, xisN, xnotN, xand, xor, xnot, xite, xbi, xisi, xtup, xlst, xix, xsl, xrev, xget, xlvals, xoget, xolen, evs, evO, evC, evS, evSs, evR, bindP, unpD, freeze, wipeE, En.get, En.own, asB, asI, isNo, ol, g, m1, add_i, int_int, m31, d7, m65, a2]
    · rw [decide_eq_false h] at g
      refine ⟨_, ?_, dr, sd, t4, t5, .fz (.int (z : Int)), rfl, s0, s1, by omega, by omega⟩
      simp [-List.map_map, xcall, xv, xnon, xbl, xint, xstr, xg, xop, xcmp, xchain, xisN, xnotN, xand, xor, xnot, xite, xbi, xisi, xtup, xlst, xix, xsl, xrev, xget, xlvals, xoget, xolen, evs, evO, evC, evS, evSs, evR, bindP, unpD, freeze, wipeE, En.get, En.own, asB, asI, isNo, ol, g])
  subst e2
  simp only [List.length_map, List.length_range, Nat.zero_add] at l3
  have ln : n ≤ dr2.length := by omega
  obtain ⟨ds, hd1, hd2⟩ := cut_n dr2 n ln
  have c2 : slD (.list (dr2.map PyData.int)) none (some (n : Int)) = some (.list (ds.map PyData.int)) := by
    show some (PyData.list (cutD _ none (some (n : Int)))) = _
    rw [hd1]
  refine ⟨ds, hd2, at_ rfl rfl ?_⟩
  refine run_of (ρ := [.fz (.list (ns.map PyData.int)), .fz (.int (n : Int)), .un, .un, .un, .un, .un]) rfl rfl ?_
  unfold K22.f__law_draws K22.b__law_draws
  rw [evSs_nx (ρ' := [.fz (.list (ns.map PyData.int)), .fz (.int (n : Int)), .ow (.list ([].map PyData.int)), .un, .un, .un, .un]) (by simp [-List.map_map, xcall, xv, xnon, xbl, xint, xstr, xg, xop, xcmp, xchain, xisN, xnotN, xand, xor, xnot, xite, xbi, xisi, xtup, xlst, xix, xsl, xrev, xget, xlvals, xoget, xolen, evs, evO, evC, evS, evSs, evR, bindP, unpD, freeze, wipeE, En.get, En.own, asB, asI, isNo])]
  rw [evSs_nx (ρ' := [.fz (.list (ns.map PyData.int)), .fz (.int (n : Int)), .ow (.list ([].map PyData.int)), .fz (.int 7), .un, .un, .un]) (by simp [-List.map_map, xcall, xv, xnon, xbl, xint, xstr, xg, xop, xcmp, xchain, xisN, xnotN, xand, xor, xnot, xite, xbi, xisi, xtup, xlst, xix, xsl, xrev, xget, xlvals, xoget, xolen, evs, evO, evC, evS, evSs, evR, bindP, unpD, freeze, wipeE, En.get, En.own, asB, asI, isNo])]
  have it1 : evI (Gk (pl "_law_draws" + 1)) (.seq (.sl (.v 0) .non (.some (.int 63)))) [.fz (.list (ns.map PyData.int)), .fz (.int (n : Int)), .ow (.list ([].map PyData.int)), .fz (.int 7), .un, .un, .un] = some (cs.map PyData.int) := by
    unfold evI
    simp [-List.map_map, xcall, xv, xnon, xbl, xint, xstr, xg, xop, xcmp, xchain, xisN, xnotN, xand, xor, xnot, xite, xbi, xisi, xtup, xlst, xix, xsl, xrev, xget, xlvals, xoget, xolen, evs, evO, evC, evS, evSs, evR, bindP, unpD, freeze, wipeE, En.get, En.own, asB, asI, isNo, c1, seqD]
  rw [evSs_nx (evS_for it1 h1)]
  have it2 : evI (Gk (pl "_law_draws" + 1)) (.rng1 (.v 1)) [.fz (.list (ns.map PyData.int)), .fz (.int (n : Int)), .ow (.list (dr1.map PyData.int)), .fz (.int sd1), t4, t5, t6] = some ((List.range n).map fun (j : Nat) => .int (j : Int)) := ev_rng (by rw [xv]; rfl) h1000
  rw [evSs_nx (evS_for it2 h2)]
  refine evSs_rt ?_
  simp [-List.map_map, xcall, xv, xnon, xbl, xint, xstr, xg, xop, xcmp, xchain, xisN, xnotN, xand, xor, xnot, xite, xbi, xisi, xtup, xlst, xix, xsl, xrev, xget, xlvals, xoget, xolen, evs, evO, evC, evS, evSs, evR, bindP, unpD, freeze, wipeE, En.get, En.own, asB, asI, isNo, c2]
end PL


set_option Elab.async false
set_option linter.all false
set_option maxRecDepth 100000
set_option exponentiation.threshold 20000
/-! NA: the law's fractions. -/
namespace PL
open PySem
theorem loopO_nx (f : En → Option Out) (ρ : En) : loopO f (.nx ρ) = f ρ := rfl
theorem gcd_loop {G : Gb} : ∀ (b : Nat) (ds : List D) (x y : Nat) (x2 : Sl), y < 2 ^ b → 2 * b + 1 ≤ ds.length → forL (fun d ρ1 => (bindP (.v 2) d ρ1).bind fun ρ2 => evSs G (.cons (.ife (.cmp .eq (.v 1) (.int 0)) (.cons (.ret (.v 0)) .nil) .nil) (.cons (.par 0 1 (.ex (.v 1)) (.ex (.op .mod (.v 0) (.v 1)))) .nil)) ρ2) ds [.fz (.int (x : Int)), .fz (.int (y : Int)), x2] = some (.rt (.int (Nat.gcd x y : Nat))) := by
  have stop : ∀ (d : D) (x : Nat) (x2 : Sl), (bindP (.v 2) d [.fz (.int (x : Int)), .fz (.int ((0 : Nat) : Int)), x2]).bind (fun ρ2 => evSs G (.cons (.ife (.cmp .eq (.v 1) (.int 0)) (.cons (.ret (.v 0)) .nil) .nil) (.cons (.par 0 1 (.ex (.v 1)) (.ex (.op .mod (.v 0) (.v 1)))) .nil)) ρ2) = some (.rt (.int (x : Int))) := by
    intro d x x2
    have e := eq_int (T := G.tups) ((0 : Nat) : Int) 0
    rw [decide_eq_true (by decide)] at e
    have e : cmpD G.tups .eq (.int 0) (.int 0) = some true := e
    simp [-List.map_map, xcall, xv, xnon, xbl, xint, xstr, xg, xop, xcmp, xchain, xisN, xnotN, xand, xor, xnot, xite, xbi, xisi, xtup, xlst, xix, xsl, xrev, xget, xlvals, xoget, xolen, evs, evO, evC, evS, evSs, evR, bindP, unpD, freeze, wipeE, En.get, En.own, asB, asI, isNo, e]
  have go : ∀ (d : D) (x y : Nat) (x2 : Sl), 0 < y → (bindP (.v 2) d [.fz (.int (x : Int)), .fz (.int (y : Int)), x2]).bind (fun ρ2 => evSs G (.cons (.ife (.cmp .eq (.v 1) (.int 0)) (.cons (.ret (.v 0)) .nil) .nil) (.cons (.par 0 1 (.ex (.v 1)) (.ex (.op .mod (.v 0) (.v 1)))) .nil)) ρ2) = some (.nx [.fz (.int (y : Int)), .fz (.int ((x % y : Nat) : Int)), .fz d]) := by
    intro d x y x2 hy
    have e := eq_int (T := G.tups) (y : Int) 0
    rw [decide_eq_false (by omega)] at e
    have m := mod_i (a := (x : Int)) (b := (y : Int)) (by omega)
    rw [← Int.natCast_emod] at m
    simp [-List.map_map, xcall, xv, xnon, xbl, xint, xstr, xg, xop, xcmp, xchain, xisN, xnotN, xand, xor, xnot, xite, xbi, xisi, xtup, xlst, xix, xsl, xrev, xget, xlvals, xoget, xolen, evs, evO, evC, evS, evSs, evR, bindP, unpD, freeze, wipeE, En.get, En.own, asB, asI, isNo, e, m]
  intro b
  induction b with
  | zero =>
    intro ds x y x2 hy hl
    have hy0 : y = 0 := by simpa using hy
    subst hy0
    cases ds with
    | nil => simp at hl
    | cons d ds =>
      rw [forL_cons, stop, Option.bind_some]
      simp [loopO]
  | succ b ih =>
    intro ds x y x2 hy hl
    cases ds with
    | nil => simp at hl
    | cons d ds =>
      by_cases h0 : y = 0
      · subst h0
        rw [forL_cons, stop, Option.bind_some]
        simp [loopO]
      · rw [forL_cons, go d x y x2 (by omega), Option.bind_some]
        cases ds with
        | nil => simp at hl
        | cons d2 ds =>
          rw [loopO_nx]
          have hr : x % y < y := Nat.mod_lt _ (by omega)
          have hg : Nat.gcd x y = Nat.gcd y (x % y) := by rw [Nat.gcd_comm x y, Nat.gcd_rec, Nat.gcd_comm]
          by_cases h1 : x % y = 0
          · rw [h1, forL_cons, stop, Option.bind_some, hg, h1]
            simp [loopO]
          · rw [forL_cons, go d2 y (x % y) _ (by omega), Option.bind_some]
            rw [loopO_nx]
            have h2 : y % (x % y) < 2 ^ b := by
              have h3 : y % (x % y) < x % y := Nat.mod_lt _ (by omega)
              have h4 : y % (x % y) + x % y ≤ y := by
                have h5 := Nat.div_add_mod y (x % y)
                have h6 : 1 ≤ y / (x % y) := Nat.div_pos (by omega) (by omega)
                have h7 : x % y ≤ x % y * (y / (x % y)) := Nat.le_mul_of_pos_right _ h6
                omega
              rw [Nat.pow_succ] at hy
              omega
            rw [ih ds (x % y) (y % (x % y)) _ h2 (by simp at hl; omega)]
            rw [hg, Nat.gcd_comm y (x % y), Nat.gcd_rec (x % y) y, Nat.gcd_comm]
theorem rng_n (n : Nat) (h : n ≤ 4000) : rngD 0 (n : Int) = some ((List.range n).map fun (j : Nat) => .int (j : Int)) := by
  unfold rngD
  rw [if_pos (by omega)]
  simp
theorem a_common (x y : Nat) (hy : y < 2 ^ 1900) : ∀ k, k ≤ pl "_law_common" → ap (Gk k) "_law_common" [.int (x : Int), .int (y : Int)] = some (.int (Nat.gcd x y : Nat)) := by
  refine at_ rfl rfl ?_
  refine run_of (ρ := [.fz (.int (x : Int)), .fz (.int (y : Int)), .un]) rfl rfl ?_
  unfold K22.f__law_common K22.b__law_common
  have h := gcd_loop (G := Gk (pl "_law_common" + 1)) 1900 ((List.range 4000).map fun (j : Nat) => .int (j : Int)) x y .un hy (by rw [List.length_map, List.length_range]; decide)
  have it : evI (Gk (pl "_law_common" + 1)) (.rng1 (.int 4000)) [.fz (.int (x : Int)), .fz (.int (y : Int)), .un] = some ((List.range 4000).map fun (j : Nat) => .int (j : Int)) := by
    have e : evI (Gk (pl "_law_common" + 1)) (.rng1 (.int 4000)) [.fz (.int (x : Int)), .fz (.int (y : Int)), .un] = (asI (ev (Gk (pl "_law_common" + 1)) (.int 4000) [.fz (.int (x : Int)), .fz (.int (y : Int)), .un])).bind fun z => rngD 0 z := by simp only [evI]
    rw [e, xint, asI_int, Option.bind_some]
    exact rng_n 4000 (Nat.le_refl _)
  exact evSs_rt (evS_for it h)
theorem a_lowest (a : Int) (b : Nat) (hb : 0 < b) (h1 : b < 2 ^ 1900) : ∀ k, k ≤ pl "_law_lowest" → ap (Gk k) "_law_lowest" [.int a, .int (b : Int)] = some (fr (mkRat a b)) := by
  refine at_ rfl rfl ?_
  rw [fr_div a b hb]
  have hgp : 0 < Nat.gcd a.natAbs b := Nat.gcd_pos_of_pos_right _ hb
  have hle : Nat.gcd a.natAbs b ≤ b := Nat.gcd_le_right _ hb
  have hs : (Nat.gcd a.natAbs b).log2 < 9000 := Nat.lt_trans (log_lt (Nat.lt_of_le_of_lt hle h1) (by decide)) (by decide)
  have c1 := a_common a.natAbs b h1 _ (show pl "_law_lowest" + 1 ≤ pl "_law_common" by decide +kernel)
  have c2 : biD (Gk (pl "_law_lowest" + 1)).tups .abs [.int a] = some (.int (a.natAbs : Int)) := by
    rw [abs_int]
    congr 2
    split <;> omega
  have e1 : opD .fdiv (.int a) (.int (Nat.gcd a.natAbs b : Nat)) = some (.int (a / (Nat.gcd a.natAbs b : Nat))) := fdiv_i (by omega) (by simpa using hs)
  have e2 : opD .fdiv (.int (b : Int)) (.int (Nat.gcd a.natAbs b : Nat)) = some (.int ((b : Int) / (Nat.gcd a.natAbs b : Nat))) := fdiv_i (by omega) (by simpa using hs)
  refine run_of (ρ := [.fz (.int a), .fz (.int (b : Int)), .un]) rfl rfl ?_
  unfold K22.f__law_lowest K22.b__law_lowest
  simp [-List.map_map, xcall, xv, xnon, xbl, xint, xstr, xg, xop, xcmp, xchain, xisN, xnotN, xand, xor, xnot, xite, xbi, xisi, xtup, xlst, xix, xsl, xrev, xget, xlvals, xoget, xolen, evs, evO, evC, evS, evSs, evR, bindP, unpD, freeze, wipeE, En.get, En.own, asB, asI, isNo, c1, c2, e1, e2]
/-- fractions at ease for the law's own sums -/
abbrev Se (r : Rat) : Prop := Sz 900 r
theorem Se.sm {r : Rat} (h : Se r) : Sm r := h.mono (by decide)
theorem se_den {r s : Rat} (hr : Se r) (hs : Se s) : 0 < r.den * s.den ∧ r.den * s.den < 2 ^ 1900 := by
  refine ⟨Nat.mul_pos r.den_pos s.den_pos, Nat.lt_of_lt_of_le (Nat.mul_lt_mul'' hr.2 hs.2) ?_⟩
  rw [← Nat.pow_add]
  exact Nat.pow_le_pow_right (by decide) (by decide)
theorem Bd.se {M B : Nat} {r : Rat} (h : Bd M B r) (hM : 0 < M) (h1 : M < 2 ^ 64) (h2 : B < 2 ^ 20) : Se r := (h.sz hM h1 h2).mono (by decide)
theorem a_lplus {r s : Rat} (hr : Se r) (hs : Se s) : ∀ k, k ≤ pl "_law_plus" → ap (Gk k) "_law_plus" [fr r, fr s] = some (fr (r + s)) := by
  refine at_ rfl rfl ?_
  have m1 := mul_ok hr.sm.num hs.sm.den (by decide) (by decide) (by decide)
  have m2 := mul_ok hs.sm.num hr.sm.den (by decide) (by decide) (by decide)
  have m3 := mul_ok hr.sm.den hs.sm.den (by decide) (by decide) (by decide)
  obtain ⟨d0, d1⟩ := se_den hr hs
  have c := a_lowest (r.num * (s.den : Int) + s.num * (r.den : Int)) (r.den * s.den) d0 d1 _ (show pl "_law_plus" + 1 ≤ pl "_law_lowest" by decide +kernel)
  rw [Int.natCast_mul] at c
  rw [Rat.add_def']
  unfold K22.f__law_plus K22.b__law_plus
  simp [-List.map_map, xcall, xv, xnon, xbl, xint, xstr, xg, xop, xcmp, xchain, xisN, xnotN, xand, xor, xnot, xite, xbi, xisi, xtup, xlst, xix, xsl, xrev, xget, xlvals, xoget, xolen, evs, evO, evC, evS, evSs, evR, bindP, unpD, freeze, wipeE, En.get, En.own, asB, asI, isNo, run, fr0, fr1, m1, m2, m3, c, add_i]
theorem a_ltimes {r s : Rat} (hr : Se r) (hs : Se s) : ∀ k, k ≤ pl "_law_times" → ap (Gk k) "_law_times" [fr r, fr s] = some (fr (r * s)) := by
  refine at_ rfl rfl ?_
  have m1 := mul_ok hr.sm.num hs.sm.num (by decide) (by decide) (by decide)
  have m3 := mul_ok hr.sm.den hs.sm.den (by decide) (by decide) (by decide)
  obtain ⟨d0, d1⟩ := se_den hr hs
  have c := a_lowest (r.num * s.num) (r.den * s.den) d0 d1 _ (show pl "_law_times" + 1 ≤ pl "_law_lowest" by decide +kernel)
  rw [Int.natCast_mul] at c
  rw [Rat.mul_def']
  unfold K22.f__law_times K22.b__law_times
  simp [-List.map_map, xcall, xv, xnon, xbl, xint, xstr, xg, xop, xcmp, xchain, xisN, xnotN, xand, xor, xnot, xite, xbi, xisi, xtup, xlst, xix, xsl, xrev, xget, xlvals, xoget, xolen, evs, evO, evC, evS, evSs, evR, bindP, unpD, freeze, wipeE, En.get, En.own, asB, asI, isNo, run, fr0, fr1, m1, m3, c]
theorem fr_neg (r : Rat) : fr (-r) = .tuple [.int (0 - r.num), .int (r.den : Int)] := by
  unfold fr
  rw [Rat.neg_num, Rat.neg_den, Int.zero_sub]
theorem a_lminus {r s : Rat} (hr : Se r) (hs : Se s) : ∀ k, k ≤ pl "_law_minus" → ap (Gk k) "_law_minus" [fr r, fr s] = some (fr (r - s)) := by
  refine at_ rfl rfl ?_
  have hn : Se (-s) := by
    refine ⟨?_, ?_⟩
    · rw [Rat.neg_num, Int.natAbs_neg]; exact hs.1
    · rw [Rat.neg_den]; exact hs.2
  have c := a_lplus hr hn _ (show pl "_law_minus" + 1 ≤ pl "_law_plus" by decide +kernel)
  rw [fr_neg, ← Rat.sub_eq_add_neg, Int.zero_sub] at c
  unfold K22.f__law_minus K22.b__law_minus
  simp [-List.map_map, xcall, xv, xnon, xbl, xint, xstr, xg, xop, xcmp, xchain, xisN, xnotN, xand, xor, xnot, xite, xbi, xisi, xtup, xlst, xix, xsl, xrev, xget, xlvals, xoget, xolen, evs, evO, evC, evS, evSs, evR, bindP, unpD, freeze, wipeE, En.get, En.own, asB, asI, isNo, run, fr0, fr1, c, sub_i]
theorem a_labove {r s : Rat} (hr : Se r) (hs : Se s) : ∀ k, k ≤ pl "_law_is_above" → ap (Gk k) "_law_is_above" [fr r, fr s] = some (.bool (decide (s < r))) := by
  refine at_ rfl rfl ?_
  have m1 := mul_ok hr.sm.num hs.sm.den (by decide) (by decide) (by decide)
  have m2 := mul_ok hs.sm.num hr.sm.den (by decide) (by decide) (by decide)
  have e : decide (s < r) = decide (s.num * (r.den : Int) < r.num * (s.den : Int)) := decide_eq_decide.mpr (Rat.lt_iff s r)
  rw [e]
  unfold K22.f__law_is_above K22.b__law_is_above
  simp [-List.map_map, xcall, xv, xnon, xbl, xint, xstr, xg, xop, xcmp, xchain, xisN, xnotN, xand, xor, xnot, xite, xbi, xisi, xtup, xlst, xix, xsl, xrev, xget, xlvals, xoget, xolen, evs, evO, evC, evS, evSs, evR, bindP, unpD, freeze, wipeE, En.get, En.own, asB, asI, isNo, run, fr0, fr1, m1, m2, gt_int]
/-! ### a spread of pairs of the law's own -/
theorem le_rows {q p : Int × Int} (h : q.1 < p.1) : PySem.W.dataLe false id (prD q) (prD p) = true := by
  unfold PySem.W.dataLe PySem.W.sortLe prD
  simp only [cond_false, id, PySem.W.keyToks, PySem.W.keyToksAll, List.singleton_append]
  rw [Bool.not_eq_true']
  rw [PyProof.Rows.lex_self]
  rw [PyProof.Rows.lex_diff (fun e => by have := Sum.inl.inj e; omega)]
  show decide (p.1 < q.1) = false
  exact decide_eq_false (by omega)
theorem sorted_rows {T : List D} {w : Wt} (inc : (w.map (·.1)).Pairwise (· < ·)) : biD T .sorted [.list (w.map prD)] = some (.list (w.map prD)) := by
  have hs : (w.map prD).Pairwise (fun a b => PySem.W.dataLe false id a b = true) := by
    rw [List.pairwise_map] at inc ⊢
    exact inc.imp le_rows
  have hk : sortOk (w.map prD) = true := by
    unfold sortOk
    have h1 : ∀ d ∈ w.map prD, ∃ q, d = prD q := fun d hd => by
      obtain ⟨q, _, e⟩ := List.mem_map.mp hd
      exact ⟨q, e.symm⟩
    rw [Bool.and_eq_true, Bool.and_eq_true, Bool.or_eq_true]
    refine ⟨⟨List.all_eq_true.mpr fun d hd => List.all_eq_true.mpr fun e he => ?_, .inl (List.all_eq_true.mpr fun d hd => ?_)⟩, List.all_eq_true.mpr fun d hd => ?_⟩
    · obtain ⟨q, rfl⟩ := h1 d hd
      obtain ⟨p, rfl⟩ := h1 e he
      rfl
    · obtain ⟨q, rfl⟩ := h1 d hd
      rfl
    · obtain ⟨q, rfl⟩ := h1 d hd
      rfl
  show sortD (w.map prD) = _
  unfold sortD
  rw [if_pos hk, List.mergeSort_of_pairwise hs]
end PL


set_option Elab.async false
set_option linter.all false
set_option maxRecDepth 100000
set_option exponentiation.threshold 20000
/-! NB: a spread made by the law; equal spreads. -/
namespace PL
open PySem
theorem canAll_rows : ∀ w : Wt, PyData.canLayAll0 (w.map prD) = true
  | [] => rfl
  | q :: r => by
    rw [List.map_cons, PyData.canLayAll0, canAll_rows r]
    rfl
theorem depth_rows : ∀ w : Wt, PyData.depthAll (w.map prD) ≤ 1
  | [] => by simp [PyData.depthAll]
  | q :: r => by
    have := depth_rows r
    have h : PyData.depth (prD q) = 1 := by simp [prD, PyData.depth, PyData.depthAll]
    rw [List.map_cons, PyData.depthAll, h]
    omega
theorem sp_shaped (w : Wt) : SeqAt.shaped (spD w) = true := by
  have h1 := canAll_rows w
  have h2 := depth_rows w
  unfold SeqAt.shaped spD rowsD
  rw [Bool.and_eq_true]
  refine ⟨by simp [PyData.canLay0, PyData.canLayAll0, h1], decide_eq_true ?_⟩
  simp only [PyData.depth, PyData.depthAll]
  omega
theorem sp_ne {T : List D} {w w' : Wt} (h : w = w') : cmpD T .ne (spD w) (spD w') = some false := by
  subst h
  exact cmp_ne_same (sp_shaped w)
theorem fr_ne {T : List D} {r s : Rat} (h : r = s) : cmpD T .ne (fr r) (fr s) = some false := by
  subst h
  exact cmp_ne_same (fr_shaped r)
theorem nrm_asc {w : Wt} (inc : (w.map (·.1)).Pairwise (· < ·)) : nrm w = (posW w).map fun q => (q.1, q.2 / (gcdL ((posW w).map (·.2)) : Int)) := by
  have inc' : ((posW w).map (·.1)).Pairwise (· < ·) := inc.sublist ((List.filter_sublist (l := w)).map _)
  have nd' : ((posW w).map (·.1)).Nodup := inc'.imp fun h => Int.ne_of_lt h
  have hs : sortI ((posW w).map (·.1)) = (posW w).map (·.1) := PySem.W.ksm_same (sortI_perm _) (sortI_sorted _) (inc'.imp fun h => Int.le_of_lt h)
  unfold nrm
  rw [hs, List.map_map]
  refine List.map_congr_left fun q hq => ?_
  simp only [Function.comp]
  unfold valW
  rw [(lookup_mem_iff nd').mpr (show (q.1, q.2) ∈ posW w from hq)]
  rfl
theorem made_loop (x0 : Sl) : ∀ (bs : Wt) (c : Nat) (x1 x3 x4 x5 : Sl), (∀ q ∈ bs, 0 < q.2 ∧ q.2 < 2 ^ 60) → ∃ t3 t4, forL (fun d ρ1 => (bindP (.cons (.v 3) (.cons (.v 4) .nil)) d ρ1).bind fun ρ2 => evSs (Gk (pl "_law_made" + 1)) (.cons (.asg (.v 2) (.call "_law_common" (.cons (.v 2) (.cons (.v 4) .nil)))) .nil) ρ2) (bs.map prD) [x0, x1, .fz (.int (c : Int)), x3, x4, x5] = some (.nx [x0, x1, .fz (.int (((bs.map (·.2)).foldl (fun a z => Nat.gcd a z.natAbs) c : Nat) : Int)), t3, t4, x5])
  | [], c, x1, x3, x4, x5, _ => ⟨x3, x4, rfl⟩
  | q :: r, c, x1, x3, x4, x5, h => by
    obtain ⟨h1, h2⟩ := h q List.mem_cons_self
    obtain ⟨t3, t4, hf⟩ := made_loop x0 r (Nat.gcd c q.2.natAbs) x1 (.fz (.int q.1)) (.fz (.int q.2)) x5 fun y hy => h y (List.mem_cons_of_mem _ hy)
    refine ⟨t3, t4, ?_⟩
    have c1 := a_common c q.2.natAbs (Nat.lt_of_lt_of_le (show q.2.natAbs < 2 ^ 60 by omega) (Nat.pow_le_pow_right (by decide) (by decide))) _ (show pl "_law_made" + 1 ≤ pl "_law_common" by decide +kernel)
    rw [show ((q.2.natAbs : Nat) : Int) = q.2 by omega] at c1
    rw [List.map_cons, forL_cons]
    have step : (bindP (.cons (.v 3) (.cons (.v 4) .nil)) (prD q) [x0, x1, .fz (.int (c : Int)), x3, x4, x5]).bind (fun ρ2 => evSs (Gk (pl "_law_made" + 1)) (.cons (.asg (.v 2) (.call "_law_common" (.cons (.v 2) (.cons (.v 4) .nil)))) .nil) ρ2) = some (.nx [x0, x1, .fz (.int ((Nat.gcd c q.2.natAbs : Nat) : Int)), .fz (.int q.1), .fz (.int q.2), x5]) := by
      unfold prD
      simp [-List.map_map, xcall, xv, xnon, xbl, xint, xstr, xg, xop, xcmp, xchain, xisN, xnotN, xand, xor, xnot, xite, xbi, xisi, xtup, xlst, xix, xsl, xrev, xget, xlvals, xoget, xolen, evs, evO, evC, evS, evSs, evR, bindP, unpD, freeze, wipeE, En.get, En.own, asB, asI, isNo, c1]
    rw [step, Option.bind_some]
    exact hf
theorem a_made {w : Wt} (inc : (w.map (·.1)).Pairwise (· < ·)) (hw : ∀ q ∈ w, 0 ≤ q.2 ∧ q.2 < 2 ^ 60) (hp : ∃ q ∈ w, 0 < q.2) : ∀ k, k ≤ pl "_law_made" → ap (Gk k) "_law_made" [.list (w.map prD)] = some (spD (nrm w)) := by
  refine at_ rfl rfl ?_
  refine run_of (ρ := [.fz (.list (w.map prD)), .un, .un, .un, .un, .un]) rfl rfl ?_
  unfold K22.f__law_made K22.b__law_made
  have inc' : ((posW w).map (·.1)).Pairwise (· < ·) := inc.sublist ((List.filter_sublist (l := w)).map _)
  obtain ⟨q0, hq0, hq1⟩ := hp
  have hq2 : q0 ∈ posW w := mem_posW.mpr ⟨hq0, hq1⟩
  have hg0 : 0 < gcdL ((posW w).map (·.2)) := gcdL_pos (List.mem_map_of_mem hq2) (by omega)
  have hg1 : gcdL ((posW w).map (·.2)) < 2 ^ 60 := by
    have h1 : gcdL ((posW w).map (·.2)) ≤ q0.2.natAbs := Nat.le_of_dvd (by omega) (gcdL_dvd (List.mem_map_of_mem hq2))
    have h2 := (hw q0 hq0).2
    omega
  have e1 : ev (Gk (pl "_law_made" + 1)) (.lc [5] (.v 5) (.v 5) (.seq (.v 0)) (.some (.cmp .gt (.ix (.v 5) (.int 1)) (.int 0)))) [.fz (.list (w.map prD)), .un, .un, .un, .un, .un] = some (.list ((posW w).map prD)) := by
    refine ev_lc (ds := w.map prD) rfl ?_
    have k := compL_map (f := stepL [5] (.v 5) (fun ρ1 => evC (Gk (pl "_law_made" + 1)) (.some (.cmp .gt (.ix (.v 5) (.int 1)) (.int 0))) ρ1) (fun ρ1 => ev (Gk (pl "_law_made" + 1)) (.v 5) ρ1) [.fz (.list (w.map prD)), .un, .un, .un, .un, .un]) (g := prD) (k := prD) (u := fun q : Int × Int => if 0 < q.2 then some q else none) (fun q => by
      have g := gt_int (T := (Gk (pl "_law_made" + 1)).tups) q.2 0
      unfold stepL
      by_cases h : 0 < q.2
      · rw [decide_eq_true h] at g
        simp [-List.map_map, xcall, xv, xnon, xbl, xint, xstr, xg, xop, xcmp, xchain, xisN, xnotN, xand, xor, xnot, xite, xbi, xisi, xtup, xlst, xix, xsl, xrev, xget, xlvals, xoget, xolen, evs, evO, evC, evS, evSs, evR, bindP, unpD, freeze, wipeE, En.get, En.own, asB, asI, isNo, pr1, g, h]
      · rw [decide_eq_false h] at g
        simp [-List.map_map, xcall, xv, xnon, xbl, xint, xstr, xg, xop, xcmp, xchain, xisN, xnotN, xand, xor, xnot, xite, xbi, xisi, xtup, xlst, xix, xsl, xrev, xget, xlvals, xoget, xolen, evs, evO, evC, evS, evSs, evR, bindP, unpD, freeze, wipeE, En.get, En.own, asB, asI, isNo, pr1, g, h]) w
    rw [k]
    congr 2
    unfold posW
    rw [← List.filterMap_eq_filter]
    congr 1
    funext q
    by_cases h : 0 < q.2 <;> simp [h, Option.guard]
  have e2 := sorted_rows (T := (Gk (pl "_law_made" + 1)).tups) inc'
  rw [evSs_nx (ρ' := [.fz (.list (w.map prD)), .fz (.list ((posW w).map prD)), .un, .un, .un, .un]) (by simp [-List.map_map, xcall, xv, xnon, xbl, xint, xstr, xg, xop, xcmp, xchain, xisN, xnotN, xand, xor, xnot, xite, xbi, xisi, xtup, xlst, xix, xsl, xrev, xget, xlvals, xoget, xolen, evs, evO, evC, evS, evSs, evR, bindP, unpD, freeze, wipeE, En.get, En.own, asB, asI, isNo, e1, e2])]
  rw [evSs_nx (ρ' := [.fz (.list (w.map prD)), .fz (.list ((posW w).map prD)), .fz (.int ((0 : Nat) : Int)), .un, .un, .un]) (by rfl)]
  obtain ⟨t3, t4, h⟩ := made_loop (.fz (.list (w.map prD))) (posW w) 0 (.fz (.list ((posW w).map prD))) .un .un .un (fun q hq => ⟨(mem_posW.mp hq).2, (hw q (mem_posW.mp hq).1).2⟩)
  have it : evI (Gk (pl "_law_made" + 1)) (.seq (.v 1)) [.fz (.list (w.map prD)), .fz (.list ((posW w).map prD)), .fz (.int ((0 : Nat) : Int)), .un, .un, .un] = some ((posW w).map prD) := by rfl
  rw [evSs_nx (evS_for it h)]
  have h : (((posW w).map (·.2)).foldl (fun a z => Nat.gcd a z.natAbs) 0) = gcdL ((posW w).map (·.2)) := rfl
  rw [h]
  have e3 : ev (Gk (pl "_law_made" + 1)) (.lc [3, 4] (.tup (.cons (.v 3) (.cons (.op .fdiv (.v 4) (.v 2)) .nil))) (.cons (.v 3) (.cons (.v 4) .nil)) (.seq (.v 1)) .non) [.fz (.list (w.map prD)), .fz (.list ((posW w).map prD)), .fz (.int (gcdL ((posW w).map (·.2)) : Int)), t3, t4, .un] = some (.list ((nrm w).map prD)) := by
    rw [nrm_asc inc, List.map_map]
    refine ev_lc (ds := (posW w).map prD) rfl (compL_all (posW w) fun q hq => ?_)
    have d := fdiv_i (a := q.2) (b := (gcdL ((posW w).map (·.2)) : Int)) (by omega) (Nat.lt_trans (log_lt (n := 60) (by simpa using hg1) (by decide)) (by decide))
    unfold stepL prD
    simp [-List.map_map, xcall, xv, xnon, xbl, xint, xstr, xg, xop, xcmp, xchain, xisN, xnotN, xand, xor, xnot, xite, xbi, xisi, xtup, xlst, xix, xsl, xrev, xget, xlvals, xoget, xolen, evs, evO, evC, evS, evSs, evR, bindP, unpD, freeze, wipeE, En.get, En.own, asB, asI, isNo, d]
  rw [evSs_nx (ρ' := [.fz (.list (w.map prD)), .fz (.list ((nrm w).map prD)), .fz (.int (gcdL ((posW w).map (·.2)) : Int)), t3, t4, .un]) (by simp [-List.map_map, xcall, xv, xnon, xbl, xint, xstr, xg, xop, xcmp, xchain, xisN, xnotN, xand, xor, xnot, xite, xbi, xisi, xtup, xlst, xix, xsl, xrev, xget, xlvals, xoget, xolen, evs, evO, evC, evS, evSs, evR, bindP, unpD, freeze, wipeE, En.get, En.own, asB, asI, isNo, e3])]
  have e4 : ev (Gk (pl "_law_made" + 1)) (.lc [3, 4] (.v 4) (.cons (.v 3) (.cons (.v 4) .nil)) (.seq (.v 1)) .non) [.fz (.list (w.map prD)), .fz (.list ((nrm w).map prD)), .fz (.int (gcdL ((posW w).map (·.2)) : Int)), t3, t4, .un] = some (.list (((nrm w).map (·.2)).map PyData.int)) := by
    rw [List.map_map]
    refine ev_lc (ds := (nrm w).map prD) rfl (compL_all (nrm w) fun q hq => ?_)
    unfold stepL prD
    simp [-List.map_map, xcall, xv, xnon, xbl, xint, xstr, xg, xop, xcmp, xchain, xisN, xnotN, xand, xor, xnot, xite, xbi, xisi, xtup, xlst, xix, xsl, xrev, xget, xlvals, xoget, xolen, evs, evO, evC, evS, evSs, evR, bindP, unpD, freeze, wipeE, En.get, En.own, asB, asI, isNo]
  have e5 : biD (Gk (pl "_law_made" + 1)).tups .sum [.list (((nrm w).map (·.2)).map PyData.int)] = some (.int (tot (nrm w))) := by
    simp only [biD, allInts_map, Option.map_some]
    rfl
  have e6 : biD (Gk (pl "_law_made" + 1)).tups .tuple [.list ((nrm w).map prD)] = some (rowsD (nrm w)) := rfl
  refine evSs_rt ?_
  simp [-List.map_map, xcall, xv, xnon, xbl, xint, xstr, xg, xop, xcmp, xchain, xisN, xnotN, xand, xor, xnot, xite, xbi, xisi, xtup, xlst, xix, xsl, xrev, xget, xlvals, xoget, xolen, evs, evO, evC, evS, evSs, evR, bindP, unpD, freeze, wipeE, En.get, En.own, asB, asI, isNo, e4, e5, e6]
  rfl
theorem Rt_sz {M1 M2 : Nat} (h1 : 0 < M1) (h2 : 0 < M2) (hM1 : M1 < 2 ^ 64) (hM2 : M2 < 2 ^ 64) {one two : Wt} (s1 : Sp one M1) (s2 : Sp two M2) (sub : ∀ q ∈ one, q.1 ∈ two.map (·.1)) : Sz 128 (Rt one two) := by
  obtain ⟨_, _, h3⟩ := mx_le ((rtS one two).map (·.2)) 0
  rcases h3 with e | e
  · have : Rt one two = 0 := e
    rw [this]
    exact ((bd0 1 0).sz (by decide) (n := 2) (m := 2) (by decide) (by decide)).mono (by decide)
  · obtain ⟨k, hk, e⟩ := (rt_mem s1.vs).mp e
    have e : Rt one two = pr one k / pr two k := e
    obtain ⟨q, hq, e2⟩ := List.mem_map.mp hk
    subst e2
    obtain ⟨v, hv⟩ := lookup_of_mem (sub q hq)
    have hv2 : (q.1, v) ∈ two := (lookup_mem_iff s2.vs.nd).mp hv
    obtain ⟨t1, u1⟩ := tot_bd h1 s1
    obtain ⟨t2, u2⟩ := tot_bd h2 s2
    obtain ⟨p1, p2⟩ := mem_le_tot s1.vs hq
    obtain ⟨p3, p4⟩ := mem_le_tot s2.vs hv2
    simp only at p3 p4
    have ep1 : pr one q.1 = (q.2 : Rat) / (tot one : Rat) := by rw [← pr_mem s1.vs hq, Rat.mkRat_eq_div, s1.vs.tr]
    have ep2 : pr two q.1 = (v : Rat) / (tot two : Rat) := by rw [← pr_mem s2.vs hv2, Rat.mkRat_eq_div, s2.vs.tr]
    rw [e, ep1, ep2, ← mkRat_ratio t1 (by omega) t2]
    have n1 : (q.2 * tot two).natAbs < 2 ^ 128 := natAbs_mul_lt (n := 64) (m := 64) (by omega) (by omega)
    have n2 : (v * tot one).natAbs < 2 ^ 128 := natAbs_mul_lt (n := 64) (m := 64) (by omega) (by omega)
    exact mkRat_sz (n := 128) n1 (by omega) (by decide)
end PL


set_option Elab.async false
set_option linter.all false
set_option maxRecDepth 100000
set_option exponentiation.threshold 20000
/-! Q0: powers, quotients, the chances of a noise. -/
namespace PL
open PySem
theorem ife_no {G : Gb} {c : Ex} {a b : Ss} {ρ : En} (h : ev G c ρ = some (.bool false)) : evS G (.ife c a b) ρ = evSs G b ρ := by
  simp only [evS, h, asB, Option.bind_some, Bool.false_eq_true, if_false]
theorem ife_nil {G : Gb} {c : Ex} {a : Ss} {ρ : En} (h : ev G c ρ = some (.bool false)) : evS G (.ife c a .nil) ρ = some (.nx ρ) := by
  rw [ife_no h]
  rfl
theorem ev_cmp {G : Gb} {c : Cp} {a b : Ex} {ρ : En} {x y : D} {r : Bool} (h1 : ev G a ρ = some x) (h2 : ev G b ρ = some y) (h3 : cmpD G.tups c x y = some r) : ev G (.cmp c a b) ρ = some (.bool r) := by
  rw [xcmp, h1, Option.bind_some, h2, Option.bind_some, h3]
  rfl
theorem ev_or_ff {G : Gb} {a b : Ex} {ρ : En} (h1 : ev G a ρ = some (.bool false)) (h2 : ev G b ρ = some (.bool false)) : ev G (.or_ a b) ρ = some (.bool false) := by
  rw [xor, h1, h2]
  rfl
theorem ev_vv {G : Gb} {ρ : En} {i : Nat} {d : D} (h : ρ.get i = some d) : ev G (.v i) ρ = some d := by rw [xv, h]
theorem ev_ii {G : Gb} {ρ : En} {z : Int} : ev G (.int z) ρ = some (.int z) := xint
theorem ev_call1 {G : Gb} {ρ : En} {f : Str} {a : Ex} {x r : D} (h1 : ev G a ρ = some x) (h : ap G f [x] = some r) : ev G (.call f (.cons a .nil)) ρ = some r := by
  rw [xcall]
  simp only [evs, h1, Option.bind_some, Option.map_some, h]
theorem ev_call2 {G : Gb} {ρ : En} {f : Str} {a b : Ex} {x y r : D} (h1 : ev G a ρ = some x) (h2 : ev G b ρ = some y) (h : ap G f [x, y] = some r) : ev G (.call f (.cons a (.cons b .nil))) ρ = some r := by
  rw [xcall]
  simp only [evs, h1, h2, Option.bind_some, Option.map_some, h]
theorem ev_call3 {G : Gb} {ρ : En} {f : Str} {a b c : Ex} {x y z r : D} (h1 : ev G a ρ = some x) (h2 : ev G b ρ = some y) (h3 : ev G c ρ = some z) (h : ap G f [x, y, z] = some r) : ev G (.call f (.cons a (.cons b (.cons c .nil)))) ρ = some r := by
  rw [xcall]
  simp only [evs, h1, h2, h3, Option.bind_some, Option.map_some, h]
theorem ev_tup_of {G : Gb} {ρ : En} {a : Ex} {l : List D} (h : ev G a ρ = some (.list l)) : ev G (.bi .tuple (.cons a .nil)) ρ = some (.tuple l) := by
  rw [xbi]
  simp only [evs, h, Option.bind_some, Option.map_some]
  rfl
theorem ev_tup2 {G : Gb} {ρ : En} {a b : Ex} {x y : D} (h1 : ev G a ρ = some x) (h2 : ev G b ρ = some y) : ev G (.tup (.cons a (.cons b .nil))) ρ = some (.tuple [x, y]) := by
  rw [xtup]
  simp only [evs, h1, h2, Option.bind_some, Option.map_some]
theorem ev_ixx {G : Gb} {ρ : En} {a b : Ex} {x y z : D} (h1 : ev G a ρ = some x) (h2 : ev G b ρ = some y) (h : ixD G.tups x y = some z) : ev G (.ix a b) ρ = some z := by
  rw [xix, h1, Option.bind_some, h2, Option.bind_some, h]
theorem ev_opp {G : Gb} {ρ : En} {o : Op2} {a b : Ex} {x y z : D} (h1 : ev G a ρ = some x) (h2 : ev G b ρ = some y) (h : opD o x y = some z) : ev G (.op o a b) ρ = some z := by
  rw [xop, h1, Option.bind_some, h2, Option.bind_some, h]
theorem ev_asg {G : Gb} {ρ : En} {i : Nat} {e : Ex} {d : D} (h : ev G e ρ = some d) : evS G (.asg (.v i) e) ρ = some (.nx (ρ.set i (.fz d))) := by
  simp only [evS, h, Option.bind_some, bindP, Option.map_some]
theorem ev_tuple_rng {G : Gb} {ρ : En} {own : List Nat} {e a : Ex} {i m : Nat} {g : Nat → D} (hm : m ≤ 1000) (ha : ev G a ρ = some (.int (m : Int))) (h : ∀ x, x < m → stepL own (.v i) (fun ρ1 => evC G .non ρ1) (fun ρ1 => ev G e ρ1) ρ (.int (x : Int)) = some (some (g x))) : ev G (.lc own e (.v i) (.rng1 a) .non) ρ = some (.list ((List.range m).map g)) := by
  refine ev_lc (ev_rng ha hm) (compL_all (List.range m) fun x hx => h x (List.mem_range.mp hx))
theorem ife_yes {G : Gb} {c : Ex} {a b : Ss} {ρ : En} (h : ev G c ρ = some (.bool true)) : evS G (.ife c a b) ρ = evSs G a ρ := by
  simp only [evS, h, asB, Option.bind_some, if_true]
theorem ev_gg {G : Gb} {ρ : En} {x : Str} {d : D} (h : G.cst x = some d) : ev G (.g x) ρ = some d := by rw [xg, h]
theorem ev_bi1 {G : Gb} {ρ : En} {f : Bi} {a : Ex} {x r : D} (h1 : ev G a ρ = some x) (h : biD G.tups f [x] = some r) : ev G (.bi f (.cons a .nil)) ρ = some r := by
  rw [xbi]
  simp only [evs, h1, Option.bind_some, Option.map_some, h]
theorem ev_bi2 {G : Gb} {ρ : En} {f : Bi} {a b : Ex} {x y r : D} (h1 : ev G a ρ = some x) (h2 : ev G b ρ = some y) (h : biD G.tups f [x, y] = some r) : ev G (.bi f (.cons a (.cons b .nil))) ρ = some r := by
  rw [xbi]
  simp only [evs, h1, h2, Option.bind_some, Option.map_some, h]
theorem ev_call4 {G : Gb} {ρ : En} {f : Str} {a b c d : Ex} {x y z w r : D} (h1 : ev G a ρ = some x) (h2 : ev G b ρ = some y) (h3 : ev G c ρ = some z) (h4 : ev G d ρ = some w) (h : ap G f [x, y, z, w] = some r) : ev G (.call f (.cons a (.cons b (.cons c (.cons d .nil))))) ρ = some r := by
  rw [xcall]
  simp only [evs, h1, h2, h3, h4, Option.bind_some, Option.map_some, h]
theorem ev_retS {G : Gb} {ρ : En} {e : Ex} {ss : Ss} {d : D} (h : ev G e ρ = some d) : evSs G (.cons (.ret e) ss) ρ = some (.rt d) := evSs_rt (by simp only [evS, h, Option.map_some])
theorem ev_exS {G : Gb} {ρ : En} {e : Ex} {d : D} (h : ev G e ρ = some d) : evS G (.ex e) ρ = some (.nx ρ) := by simp only [evS, h, Option.map_some]
theorem ev_andT {G : Gb} {ρ : En} {a b : Ex} {x : Bool} (h1 : ev G a ρ = some (.bool true)) (h2 : ev G b ρ = some (.bool x)) : ev G (.and_ a b) ρ = some (.bool x) := by
  rw [xand, h1, h2]
  rfl
theorem ev_andF {G : Gb} {ρ : En} {a b : Ex} (h1 : ev G a ρ = some (.bool false)) : ev G (.and_ a b) ρ = some (.bool false) := by
  rw [xand, h1]
  rfl
theorem rat_pow_eq (r : Rat) (n : Nat) : r ^ n = mkRat (r.num ^ n) (r.den ^ n) := by
  induction n with
  | zero => simp [Rat.pow_zero, Rat.mkRat_eq_div]; grind
  | succ n ih =>
    rw [Rat.pow_succ, ih, Rat.mkRat_eq_div, Rat.mkRat_eq_div]
    have e := den_mul r
    have h1 : (r.den : Rat) ≠ 0 := by exact_mod_cast r.den_nz
    rw [Int.pow_succ, Nat.pow_succ]
    push_cast
    rw [← e]
    have h2 : (r.den : Rat) ^ n ≠ 0 := by
      intro h
      have h3 : ((r.den ^ n : Nat) : Rat) = ((0 : Nat) : Rat) := by push_cast; exact h
      have h4 : r.den ^ n = 0 := by exact_mod_cast h3
      exact absurd h4 (Nat.ne_of_gt (Nat.pow_pos r.den_pos))
    grind
theorem fr_pow (r : Rat) (n : Nat) : fr (r ^ n) = .tuple [.int (r.num ^ n), .int ((r.den : Int) ^ n)] := by
  rw [rat_pow_eq, fr_div _ _ (Nat.pow_pos r.den_pos)]
  have g : Nat.gcd (r.num ^ n).natAbs (r.den ^ n) = 1 := by
    rw [Int.natAbs_pow]
    exact Nat.Coprime.pow n n r.reduced
  rw [g]
  simp
theorem pow_small {a : Int} {k : Nat} (h : a.natAbs < 2 ^ 3) (hk : k ≤ 60) : (a ^ k).natAbs < 2 ^ 181 := by
  rw [Int.natAbs_pow]
  have h1 : a.natAbs ^ k ≤ (2 ^ 3) ^ k := Nat.pow_le_pow_left (Nat.le_of_lt h) k
  have h2 : (2 ^ 3) ^ k ≤ (2 ^ 3) ^ 60 := Nat.pow_le_pow_right (by decide) hk
  have h3 : (2 ^ 3) ^ 60 < 2 ^ 181 := by decide
  omega
theorem a_pow {r : Rat} (h1 : r.num.natAbs < 2 ^ 3) (h2 : r.den < 2 ^ 3) {n : Nat} (hn : n ≤ 60) : ∀ k, k ≤ pl "power_of" → ap (Gk k) "power_of" [fr r, .int (n : Int)] = some (fr (r ^ n)) := by
  refine at_ rfl rfl ?_
  obtain ⟨ρ', e1, t4, e2⟩ := forL_ex (P := fun j ρ => ∃ t4, ρ = [.fz (fr r), .fz (.int (n : Int)), .fz (.int (r.num ^ j)), .fz (.int ((r.den : Int) ^ j)), t4]) ((List.range n).map fun (j : Nat) => PyData.int (j : Int)) 0 _ ⟨.un, rfl⟩ (step := fun d ρ1 => (bindP (.v 4) d ρ1).bind fun ρ2 => evSs (Gk (pl "power_of" + 1)) (.cons (.par 2 3 (.ex (.op .mul (.v 2) (.ix (.v 0) (.int 0)))) (.ex (.op .mul (.v 3) (.ix (.v 0) (.int 1))))) .nil) ρ2) (by
    rintro j ρ d hd hj ⟨t4, rfl⟩
    simp only [List.length_map, List.length_range] at hj
    have m1 := mul_ok (pow_small h1 (show j ≤ 60 by omega)) h1 (by decide) (by decide) (by decide)
    have m2 := mul_ok (pow_small (a := (r.den : Int)) (k := j) (by simpa using h2) (by omega)) (b := (r.den : Int)) (m := 3) (by simpa using h2) (by decide) (by decide) (by decide)
    refine ⟨_, ?_, .fz d, rfl⟩
    rw [Int.pow_succ, Int.pow_succ]
    simp [-List.map_map, xcall, xv, xnon, xbl, xint, xstr, xg, xop, xcmp, xchain, xisN, xnotN, xand, xor, xnot, xite, xbi, xisi, xtup, xlst, xix, xsl, xrev, xget, xlvals, xoget, xolen, evs, evO, evC, evS, evSs, evR, bindP, unpD, freeze, wipeE, En.get, En.own, asB, asI, isNo, fr0, fr1, m1, m2])
  subst e2
  simp only [List.length_map, List.length_range, Nat.zero_add] at e1
  refine run_of (ρ := [.fz (fr r), .fz (.int (n : Int)), .un, .un, .un]) rfl rfl ?_
  unfold K22.f_power_of K22.b_power_of
  rw [evSs_nx (ρ' := [.fz (fr r), .fz (.int (n : Int)), .fz (.int (r.num ^ 0)), .fz (.int ((r.den : Int) ^ 0)), .un]) (by simp [-List.map_map, xcall, xv, xnon, xbl, xint, xstr, xg, xop, xcmp, xchain, xisN, xnotN, xand, xor, xnot, xite, xbi, xisi, xtup, xlst, xix, xsl, xrev, xget, xlvals, xoget, xolen, evs, evO, evC, evS, evSs, evR, bindP, unpD, freeze, wipeE, En.get, En.own, asB, asI, isNo])]
  have it : evI (Gk (pl "power_of" + 1)) (.rng1 (.v 1)) [.fz (fr r), .fz (.int (n : Int)), .fz (.int (r.num ^ 0)), .fz (.int ((r.den : Int) ^ 0)), .un] = some ((List.range n).map fun (j : Nat) => .int (j : Int)) := ev_rng (by rw [xv]; rfl) (by omega)
  rw [evSs_nx (evS_for it e1)]
  refine evSs_rt ?_
  rw [fr_pow]
  simp [-List.map_map, xcall, xv, xnon, xbl, xint, xstr, xg, xop, xcmp, xchain, xisN, xnotN, xand, xor, xnot, xite, xbi, xisi, xtup, xlst, xix, xsl, xrev, xget, xlvals, xoget, xolen, evs, evO, evC, evS, evSs, evR, bindP, unpD, freeze, wipeE, En.get, En.own, asB, asI, isNo]
theorem div_eq_mk {r s : Rat} (hs : 0 < s) : mkRat (r.num * (s.den : Int)) (r.den * s.num.toNat) = r / s ∧ 0 < s.num := by
  have hn : 0 < s.num := by
    have h1 := Rat.num_nonneg.mpr (Rat.le_of_lt hs)
    have h2 : s.num ≠ 0 := fun e => by
      have := Rat.num_eq_zero.mp e
      grind
    omega
  refine ⟨?_, hn⟩
  have e1 := den_mul r
  have e2 := den_mul s
  have e3 : ((s.num.toNat : Nat) : Rat) = (s.num : Rat) := by rw [← Rat.intCast_natCast, Int.toNat_of_nonneg (by omega)]
  have h1 : (r.den : Rat) ≠ 0 := by exact_mod_cast r.den_nz
  have h2 : (s.den : Rat) ≠ 0 := by exact_mod_cast s.den_nz
  have h3 : s ≠ 0 := by grind
  rw [Rat.mkRat_eq_div]
  push_cast
  rw [e3, ← e1, ← e2]
  grind
theorem Sz.div {n m : Nat} {r s : Rat} (hr : Sz n r) (hs : Sz m s) (h0 : 0 < n) (hp : 0 < s) : Sz (n + m) (r / s) := by
  obtain ⟨e, hn⟩ := div_eq_mk (r := r) hp
  rw [← e]
  refine mkRat_sz (natAbs_mul_lt hr.1 (by simpa using hs.2)) ?_ (by omega)
  rw [Nat.pow_add]
  exact Nat.mul_lt_mul'' hr.2 (by have := hs.1; omega)
theorem a_over {r s : Rat} (hr : Sm r) (hs : Sm s) (hp : 0 < s) : ∀ k, k ≤ pl "over" → ap (Gk k) "over" [fr r, fr s] = some (fr (r / s)) := by
  refine at_ rfl rfl ?_
  obtain ⟨e, hn⟩ := div_eq_mk (r := r) hp
  have m1 := mul_ok hr.num hs.den (by decide) (by decide) (by decide)
  have m2 := mul_ok hr.den hs.num (by decide) (by decide) (by decide)
  have b0 : 0 < r.den * s.num.toNat := Nat.mul_pos r.den_pos (by omega)
  have b1 : r.den * s.num.toNat < 2 ^ 9000 := by
    refine Nat.lt_of_lt_of_le (Nat.mul_lt_mul'' hr.2 (show s.num.toNat < 2 ^ 4000 by have := hs.1; omega)) ?_
    rw [← Nat.pow_add]
    exact Nat.pow_le_pow_right (by decide) (by decide)
  have c := a_lp (r.num * (s.den : Int)) (r.den * s.num.toNat) b0 b1 _ (show pl "over" + 1 ≤ pl "least_pair" by decide +kernel)
  rw [e, Int.natCast_mul, Int.toNat_of_nonneg (Int.le_of_lt hn)] at c
  unfold K22.f_over K22.b_over
  simp [-List.map_map, xcall, xv, xnon, xbl, xint, xstr, xg, xop, xcmp, xchain, xisN, xnotN, xand, xor, xnot, xite, xbi, xisi, xtup, xlst, xix, xsl, xrev, xget, xlvals, xoget, xolen, evs, evO, evC, evS, evSs, evR, bindP, unpD, freeze, wipeE, En.get, En.own, asB, asI, isNo, run, fr0, fr1, m1, m2, c]
/-- the chance that the noise is n or more; that it is n -/
def Tl (b : Rat) (n : Int) : Rat := if 1 ≤ n then b ^ n.toNat / (1 + b) else 1 - b ^ (1 - n).toNat / (1 + b)
def At (b : Rat) (n : Int) : Rat := (1 - b) / (1 + b) * b ^ n.natAbs
/-- a base -/
structure Bs (b : Rat) : Prop where
  pos : 0 < b
  lt : b < 1
  den : b.den ≤ 5
theorem Bs.num {b : Rat} (h : Bs b) : 0 < b.num ∧ b.num < (b.den : Int) := by
  have h1 := Rat.num_nonneg.mpr (Rat.le_of_lt h.pos)
  have h2 : b.num ≠ 0 := fun e => by
    have := Rat.num_eq_zero.mp e
    have := h.pos
    grind
  refine ⟨by omega, ?_⟩
  have e := den_mul b
  have hd : (0 : Rat) < (b.den : Rat) := by exact_mod_cast b.den_pos
  have h3 : (b.den : Rat) * b < (b.den : Rat) * 1 := Rat.mul_lt_mul_of_pos_left h.lt hd
  rw [e] at h3
  have h4 : (b.num : Rat) < (((b.den : Nat) : Int) : Rat) := by
    rw [Rat.intCast_natCast]
    grind
  exact_mod_cast h4
theorem Bs.s3 {b : Rat} (h : Bs b) : Sz 3 b := by
  have := h.num
  have := h.den
  exact ⟨by omega, by omega⟩
theorem pow_pos' {b : Rat} (h : 0 < b) : ∀ n : Nat, 0 < b ^ n
  | 0 => by rw [Rat.pow_zero]; decide
  | n + 1 => by rw [Rat.pow_succ]; exact Rat.mul_pos (pow_pos' h n) h
theorem pow_le1 {b : Rat} (h : 0 < b) (h1 : b < 1) : ∀ n : Nat, b ^ n ≤ 1
  | 0 => by rw [Rat.pow_zero]; exact Rat.le_refl
  | n + 1 => by
    rw [Rat.pow_succ]
    have h2 := pow_le1 h h1 n
    have h3 := Rat.mul_le_mul_of_nonneg_right h2 (Rat.le_of_lt h)
    grind
theorem Tl_at {b : Rat} (h : 0 < b) (n : Int) : At b n = Tl b n - Tl b (n + 1) := by
  have hb : 1 + b ≠ 0 := by grind
  unfold At Tl
  by_cases h1 : 1 ≤ n
  · rw [if_pos h1, if_pos (by omega), show n.natAbs = n.toNat by omega, show (n + 1).toNat = n.toNat + 1 by omega, Rat.pow_succ]
    generalize b ^ n.toNat = x
    grind
  · by_cases h0 : n = 0
    · subst h0
      rw [if_neg (by decide), if_pos (by decide)]
      show (1 - b) / (1 + b) * b ^ 0 = 1 - b ^ 1 / (1 + b) - b ^ 1 / (1 + b)
      rw [Rat.pow_zero, Rat.pow_succ, Rat.pow_zero]
      grind
    · rw [if_neg h1, if_neg (by omega), show (1 - n).toNat = n.natAbs + 1 by omega, show (1 - (n + 1)).toNat = n.natAbs by omega, Rat.pow_succ]
      generalize b ^ n.natAbs = x
      grind
theorem Tl_sym {b : Rat} (n : Int) : Tl b (1 - n) = 1 - Tl b n := by
  unfold Tl
  by_cases h1 : 1 ≤ n
  · rw [if_pos h1, if_neg (by omega), show (1 - (1 - n)).toNat = n.toNat by omega]
  · rw [if_neg h1, if_pos (by omega)]
    grind
theorem At_nn {b : Rat} (h : 0 < b) (h1 : b < 1) (n : Int) : 0 ≤ At b n := by
  unfold At
  refine Rat.mul_nonneg ?_ (Rat.le_of_lt (pow_pos' h _))
  exact Rat.le_of_lt (div_pos' (by grind) (by grind))
theorem Tl_anti {b : Rat} (h : 0 < b) (h1 : b < 1) (n : Int) (d : Nat) : Tl b (n + d) ≤ Tl b n := by
  induction d with
  | zero => simp
  | succ d ih =>
    have e := Tl_at h (n + d)
    have := At_nn h h1 (n + d)
    rw [show n + ((d + 1 : Nat) : Int) = n + d + 1 by omega]
    grind
theorem Tl_bd {b : Rat} (h : 0 < b) (h1 : b < 1) (n : Int) : 0 ≤ Tl b n ∧ Tl b n ≤ 1 := by
  have key : ∀ k : Nat, 0 ≤ b ^ k / (1 + b) ∧ b ^ k / (1 + b) ≤ 1 := fun k => by
    have hp := pow_pos' h k
    have hl := pow_le1 h h1 k
    have hq := div_pos' hp (show 0 < 1 + b by grind)
    refine ⟨Rat.le_of_lt hq, ?_⟩
    have e : b ^ k / (1 + b) * (1 + b) = b ^ k := by
      have : 1 + b ≠ 0 := by grind
      grind
    have h3 := Rat.mul_le_mul_of_nonneg_left (show (1 : Rat) ≤ 1 + b by grind) (Rat.le_of_lt hq)
    grind
  unfold Tl
  split
  · exact key _
  · obtain ⟨a, c⟩ := key (1 - n).toNat
    exact ⟨by grind, by grind⟩
/-- what all chances go into -/
def Mb (b : Rat) : Nat := b.den ^ 23 * (b.den + b.num.toNat)
theorem pow_den_dvd (b : Rat) {k : Nat} (hk : k ≤ 23) : (b ^ k).den ∣ b.den ^ 23 := by
  rw [rat_pow_eq]
  exact Nat.dvd_trans (mkRat_dvd _ (Nat.pow_pos b.den_pos)) (Nat.pow_dvd_pow _ hk)
theorem inv_dvd {b : Rat} (h : Bs b) : (1 / (1 + b)).den ∣ b.den + b.num.toNat := by
  refine dvd_of_int (z := (b.den : Int)) ?_
  have e := den_mul b
  have h1 := h.num
  have e2 : ((b.num.toNat : Nat) : Rat) = (b.num : Rat) := by rw [← Rat.intCast_natCast, Int.toNat_of_nonneg (by omega)]
  have h2 : 1 + b ≠ 0 := by have := h.pos; grind
  push_cast
  rw [e2, ← e]
  grind
theorem quo_dvd {b : Rat} (h : Bs b) {k : Nat} (hk : k ≤ 23) : (b ^ k / (1 + b)).den ∣ Mb b := by
  have e : b ^ k / (1 + b) = b ^ k * (1 / (1 + b)) := by grind
  rw [e]
  exact dvd_mul (pow_den_dvd b hk) (inv_dvd h)
theorem Tl_dvd {b : Rat} (h : Bs b) {n : Int} (h0 : -22 ≤ n) (h1 : n ≤ 23) : (Tl b n).den ∣ Mb b := by
  unfold Tl
  split
  · exact quo_dvd h (by omega)
  · exact dvd_sub (dvd_one _) (quo_dvd h (by omega))
theorem Mb_pos (b : Rat) : 0 < Mb b := Nat.mul_pos (Nat.pow_pos b.den_pos) (by have := b.den_pos; omega)
theorem Mb_lt {b : Rat} (h : Bs b) : Mb b < 2 ^ 64 := by
  have h1 := h.den
  have h2 := h.num
  have h3 : b.den ^ 23 ≤ 5 ^ 23 := Nat.pow_le_pow_left h1 23
  have h4 : b.den + b.num.toNat ≤ 10 := by omega
  exact Nat.lt_of_le_of_lt (Nat.mul_le_mul h3 h4) (by decide)
section
variable {b : Rat}
theorem sz_one : Sz 1 (1 : Rat) := ⟨by decide, by decide⟩
theorem Bs.add (h : Bs b) : Sz 5 (1 + b) := Sz.add sz_one h.s3
theorem Bs.sub (h : Bs b) : Sz 5 (1 - b) := Sz.sub sz_one h.s3
theorem Bs.pw (h : Bs b) {n : Nat} (hn : n ≤ 60) : Sz 181 (b ^ n) := by
  rw [rat_pow_eq]
  refine mkRat_sz (pow_small h.s3.1 hn) ?_ (by decide)
  have := pow_small (a := (b.den : Int)) (k := n) (by simpa using h.s3.2) hn
  rw [Int.natAbs_pow] at this
  simpa using this
theorem a_at (h : Bs b) {n : Int} (hn : n.natAbs ≤ 60) : ∀ k, k ≤ pl "chance_at" → ap (Gk k) "chance_at" [fr b, .int n] = some (fr (At b n)) := by
  refine at_ rfl rfl ?_
  have hb := h.pos
  have c1 := a_minus sm1 (h.s3.mono (by decide)) _ (show pl "chance_at" + 1 ≤ pl "minus" by decide +kernel)
  have c2 := a_plus sm1 (h.s3.mono (by decide)) _ (show pl "chance_at" + 1 ≤ pl "plus" by decide +kernel)
  have c3 := a_over (r := 1 - b) (s := 1 + b) (h.sub.mono (by decide)) (h.add.mono (by decide)) (by grind) _ (show pl "chance_at" + 1 ≤ pl "over" by decide +kernel)
  have c4 := a_pow h.s3.1 h.s3.2 hn _ (show pl "chance_at" + 1 ≤ pl "power_of" by decide +kernel)
  have c5 := a_times (r := (1 - b) / (1 + b)) (s := b ^ n.natAbs) ((Sz.div h.sub h.add (by decide) (by grind)).mono (by decide)) ((h.pw hn).mono (by decide)) _ (show pl "chance_at" + 1 ≤ pl "times" by decide +kernel)
  have c6 : biD (Gk (pl "chance_at" + 1)).tups .abs [.int n] = some (.int (n.natAbs : Int)) := by
    have e : (if n < 0 then -n else n) = (n.natAbs : Int) := by split <;> omega
    rw [abs_int, e]
  refine run_of (ρ := [.fz (fr b), .fz (.int n)]) rfl rfl ?_
  unfold K22.f_chance_at K22.b_chance_at At
  exact ev_retS (ev_call2 (ev_call2 (ev_call2 (ev_gg (cO _)) (ev_vv rfl) c1) (ev_call2 (ev_gg (cO _)) (ev_vv rfl) c2) c3) (ev_call2 (ev_vv rfl) (ev_bi1 (ev_vv rfl) c6) c4) c5)
theorem a_from (h : Bs b) {n : Int} (h0 : -50 ≤ n) (h1 : n ≤ 50) : ∀ k, k ≤ pl "chance_from" → ap (Gk k) "chance_from" [fr b, .int n] = some (fr (Tl b n)) := by
  refine at_ rfl rfl ?_
  have hb := h.pos
  have c2 := a_plus sm1 (h.s3.mono (by decide)) _ (show pl "chance_from" + 1 ≤ pl "plus" by decide +kernel)
  have g := ge_int (T := (Gk (pl "chance_from" + 1)).tups) n 1
  refine run_of (ρ := [.fz (fr b), .fz (.int n)]) rfl rfl ?_
  unfold K22.f_chance_from K22.b_chance_from Tl
  by_cases hn : 1 ≤ n
  · rw [decide_eq_true hn] at g
    rw [if_pos hn]
    have c4 := a_pow h.s3.1 h.s3.2 (n := n.toNat) (by omega) _ (show pl "chance_from" + 1 ≤ pl "power_of" by decide +kernel)
    rw [Int.toNat_of_nonneg (by omega)] at c4
    have c3 := a_over (r := b ^ n.toNat) (s := 1 + b) ((h.pw (by omega)).mono (by decide)) (h.add.mono (by decide)) (by grind) _ (show pl "chance_from" + 1 ≤ pl "over" by decide +kernel)
    simp [-List.map_map, xcall, xv, xnon, xbl, xint, xstr, xg, xop, xcmp, xchain, xisN, xnotN, xand, xor, xnot, xite, xbi, xisi, xtup, xlst, xix, xsl, xrev, xget, xlvals, xoget, xolen, evs, evO, evC, evS, evSs, evR, bindP, unpD, freeze, wipeE, En.get, En.own, asB, asI, isNo, g, cO, c2, c4, c3]
  · rw [decide_eq_false hn] at g
    rw [if_neg hn]
    have c4 := a_pow h.s3.1 h.s3.2 (n := (1 - n).toNat) (by omega) _ (show pl "chance_from" + 1 ≤ pl "power_of" by decide +kernel)
    rw [Int.toNat_of_nonneg (by omega)] at c4
    have c3 := a_over (r := b ^ (1 - n).toNat) (s := 1 + b) ((h.pw (by omega)).mono (by decide)) (h.add.mono (by decide)) (by grind) _ (show pl "chance_from" + 1 ≤ pl "over" by decide +kernel)
    have c5 := a_minus (s := b ^ (1 - n).toNat / (1 + b)) sm1 ((Sz.div (h.pw (by omega)) h.add (by decide) (by grind)).mono (by decide)) _ (show pl "chance_from" + 1 ≤ pl "minus" by decide +kernel)
    rw [evSs_nx (ρ' := [.fz (fr b), .fz (.int n)]) (by simp [-List.map_map, xcall, xv, xnon, xbl, xint, xstr, xg, xop, xcmp, xchain, xisN, xnotN, xand, xor, xnot, xite, xbi, xisi, xtup, xlst, xix, xsl, xrev, xget, xlvals, xoget, xolen, evs, evO, evC, evS, evSs, evR, bindP, unpD, freeze, wipeE, En.get, En.own, asB, asI, isNo, g])]
    simp [-List.map_map, xcall, xv, xnon, xbl, xint, xstr, xg, xop, xcmp, xchain, xisN, xnotN, xand, xor, xnot, xite, xbi, xisi, xtup, xlst, xix, xsl, xrev, xget, xlvals, xoget, xolen, evs, evO, evC, evS, evSs, evR, bindP, unpD, freeze, wipeE, En.get, En.own, asB, asI, isNo, cO, sub_i, c2, c4, c3, c5]
theorem a_below (h : Bs b) {n : Int} (h0 : -22 ≤ n) (h1 : n ≤ 23) : ∀ k, k ≤ pl "chance_below" → ap (Gk k) "chance_below" [fr b, .int n] = some (fr (1 - Tl b n)) := by
  refine at_ rfl rfl ?_
  obtain ⟨t0, t1⟩ := Tl_bd h.pos h.lt n
  have c1 := a_from h (n := n) (by omega) (by omega) _ (show pl "chance_below" + 1 ≤ pl "chance_from" by decide +kernel)
  have c2 := a_minus sm1 ((⟨t0, by simpa using t1, Tl_dvd h h0 h1⟩ : Bd (Mb b) 1 (Tl b n)).sm (Mb_pos b) (Mb_lt h) (by decide)) _ (show pl "chance_below" + 1 ≤ pl "minus" by decide +kernel)
  unfold K22.f_chance_below K22.b_chance_below
  simp [-List.map_map, xcall, xv, xnon, xbl, xint, xstr, xg, xop, xcmp, xchain, xisN, xnotN, xand, xor, xnot, xite, xbi, xisi, xtup, xlst, xix, xsl, xrev, xget, xlvals, xoget, xolen, evs, evO, evC, evS, evSs, evR, bindP, unpD, freeze, wipeE, En.get, En.own, asB, asI, isNo, run, cO, c1, c2]
theorem a_isbase (h : Bs b) : ∀ k, k ≤ pl "is_base" → ap (Gk k) "is_base" [fr b] = some (.bool true) := by
  refine at_ rfl rfl ?_
  have h1 := h.num
  have h2 := h.den
  have c := a_frac b _ (show pl "is_base" + 1 ≤ pl "is_fraction" by decide +kernel)
  have d1 := lt_int (T := (Gk (pl "is_base" + 1)).tups) 0 b.num
  rw [decide_eq_true h1.1] at d1
  have d2 := lt_int (T := (Gk (pl "is_base" + 1)).tups) b.num (b.den : Int)
  rw [decide_eq_true h1.2] at d2
  have d3 : cmpD (Gk (pl "is_base" + 1)).tups .le (.int (b.den : Int)) (.int 5) = some true := by simp [cmpD]; omega
  have cb : (Gk (pl "is_base" + 1)).cst "MOST_BELOW" = some (.int 5) := rfl
  have e3 : ev (Gk (pl "is_base" + 1)) (.chain3 .lt .lt .le (.int 0) (.ix (.v 0) (.int 0)) (.ix (.v 0) (.int 1)) (.g "MOST_BELOW")) [.fz (fr b)] = some (.bool true) := by
    have x3 : ∀ {G : Gb} {ρ : En} {c1 c2 c3 : Cp} {a b d e : Ex}, ev G (.chain3 c1 c2 c3 a b d e) ρ = (ev G a ρ).bind fun x => (ev G b ρ).bind fun y => (cmpD G.tups c1 x y).bind fun r => if r = true then (ev G d ρ).bind fun z => (cmpD G.tups c2 y z).bind fun q => if q = true then (ev G e ρ).bind fun w => (cmpD G.tups c3 z w).map PyData.bool else some (.bool false) else some (.bool false) := by
      intro G ρ c1 c2 c3 a b d e
      simp only [ev]
    rw [x3]
    simp [-List.map_map, xcall, xv, xnon, xbl, xint, xstr, xg, xop, xcmp, xchain, xisN, xnotN, xand, xor, xnot, xite, xbi, xisi, xtup, xlst, xix, xsl, xrev, xget, xlvals, xoget, xolen, evs, evO, evC, evS, evSs, evR, bindP, unpD, freeze, wipeE, En.get, En.own, asB, asI, isNo, fr0, fr1, d1, d2, d3, cb]
  refine run_of (ρ := [.fz (fr b)]) rfl rfl ?_
  unfold K22.f_is_base K22.b_is_base
  refine evSs_rt ?_
  simp [-List.map_map, xcall, xv, xnon, xbl, xint, xstr, xg, xop, xcmp, xchain, xisN, xnotN, xand, xor, xnot, xite, xbi, xisi, xtup, xlst, xix, xsl, xrev, xget, xlvals, xoget, xolen, evs, evO, evC, evS, evSs, evR, bindP, unpD, freeze, wipeE, En.get, En.own, asB, asI, isNo, c, e3]
theorem a_score {z : Int} (h0 : -200 ≤ z) (h1 : z ≤ 200) : ∀ k, k ≤ pl "is_score" → ap (Gk k) "is_score" [.int z] = some (.bool true) := by
  refine at_ rfl rfl ?_
  have c := a_int z _ (show pl "is_score" + 1 ≤ pl "is_integer" by decide +kernel)
  have cb : (Gk (pl "is_score" + 1)).cst "MOST_SCORE" = some (.int 200) := rfl
  have d1 : cmpD (Gk (pl "is_score" + 1)).tups .le (.int (0 - 200)) (.int z) = some true := by simp [cmpD]; omega
  have d2 : cmpD (Gk (pl "is_score" + 1)).tups .le (.int z) (.int 200) = some true := by simp [cmpD]; omega
  have s : opD .sub (.int 0) (.int 200) = some (.int (0 - 200)) := rfl
  refine run_of (ρ := [.fz (.int z)]) rfl rfl ?_
  unfold K22.f_is_score K22.b_is_score
  refine evSs_rt ?_
  simp [-List.map_map, xcall, xv, xnon, xbl, xint, xstr, xg, xop, xcmp, xchain, xisN, xnotN, xand, xor, xnot, xite, xbi, xisi, xtup, xlst, xix, xsl, xrev, xget, xlvals, xoget, xolen, evs, evO, evC, evS, evSs, evR, bindP, unpD, freeze, wipeE, En.get, En.own, asB, asI, isNo, c, cb, s]
  simp only [Int.zero_sub] at d1
  simp [d1, d2]
end
end PL


set_option Elab.async false
set_option linter.all false
set_option maxRecDepth 100000
set_option exponentiation.threshold 20000
/-! Q1: a score with noise, put to ends. -/
namespace PL
open PySem
theorem evS_fz {G : Gb} {i : Nat} {s : PL.St} {ρ : En} : evS G (.fz i s) ρ = evS G s (freeze ρ i) := by simp only [evS]
theorem forL_rng' {step : D → En → Option Out} {P : Nat → En → Prop} (g : Nat → D) : ∀ (m a : Nat) (ρ : En), P a ρ → (∀ j ρ, a ≤ j → j < a + m → P j ρ → ∃ ρ', step (g j) ρ = some (.nx ρ') ∧ P (j + 1) ρ') → ∃ ρ', forL step ((List.range' a m).map g) ρ = some (.nx ρ') ∧ P (a + m) ρ'
  | 0, a, ρ, h, _ => ⟨ρ, rfl, h⟩
  | m + 1, a, ρ, h, k => by
    obtain ⟨ρ1, h1, h2⟩ := k a ρ (Nat.le_refl _) (by omega) h
    obtain ⟨ρ2, h3, h4⟩ := forL_rng' g m (a + 1) ρ1 h2 fun j ρ hj hj2 => k j ρ (by omega) (by omega)
    refine ⟨ρ2, ?_, ?_⟩
    · rw [List.range'_succ, List.map_cons, forL_cons, h1, Option.bind_some]
      exact h3
    · rw [show a + (m + 1) = a + 1 + m by omega]
      exact h4
theorem forL_rng {step : D → En → Option Out} {P : Nat → En → Prop} (g : Nat → D) (n : Nat) (ρ : En) (h : P 0 ρ) (k : ∀ j ρ, j < n → P j ρ → ∃ ρ', step (g j) ρ = some (.nx ρ') ∧ P (j + 1) ρ') : ∃ ρ', forL step ((List.range n).map g) ρ = some (.nx ρ') ∧ P n ρ' := by
  have h2 := forL_rng' (step := step) (P := P) g n 0 ρ h fun j ρ _ hj => k j ρ (by omega)
  rw [Nat.zero_add] at h2
  rw [List.range_eq_range']
  exact h2
/-- the chance that it is k or more -/
def Stl (b : Rat) (s lo hi k : Int) : Rat := if k ≤ lo then 1 else if k ≤ hi then Tl b (k - s) else 0
theorem tot_val {ps : Sh} (nd : (ps.map (·.1)).Nodup) (ks : ∀ k : Int, k ∈ ps.map (·.1) → -30 ≤ k ∧ k < 30) : totS ps = smR 60 (valS ps) := by
  unfold totS
  rw [← smR_keys (n := 60) (fun _ _ r => r) ps (fun q hq => ks q.1 (List.mem_map_of_mem hq))]
  refine smR_congr fun j _ _ => ?_
  rw [← sumAt_val nd]
  rfl
theorem smR_tele (F : Int → Rat) : ∀ n : Nat, smR n (fun j => F j - F (j + 1)) = F (-30) - F ((n : Int) - 30)
  | 0 => by
    show (0 : Rat) = F (-30) - F (((0 : Nat) : Int) - 30)
    rw [show ((0 : Nat) : Int) - 30 = -30 by omega]
    grind
  | n + 1 => by
    rw [smR_succ, smR_tele F n, show ((n + 1 : Nat) : Int) - 30 = (n : Int) - 30 + 1 by omega]
    grind
/-- the sum of a piece -/
theorem smR_part (F : Int → Rat) {a c : Int} (ha : -30 ≤ a) (hac : a ≤ c) (hc : c ≤ 30) : smR 60 (fun j => if a ≤ j ∧ j < c then F j - F (j + 1) else 0) = F a - F c := by
  have e : smR 60 (fun j => if a ≤ j ∧ j < c then F j - F (j + 1) else 0) = smR 60 (fun j => F (max a (min j c)) - F (max a (min (j + 1) c))) := by
    refine smR_congr fun j _ _ => ?_
    by_cases h : a ≤ j ∧ j < c
    · rw [if_pos h, show max a (min j c) = j by omega, show max a (min (j + 1) c) = j + 1 by omega]
    · rw [if_neg h]
      by_cases h1 : j < a
      · rw [show max a (min j c) = a by omega, show max a (min (j + 1) c) = a by omega]; grind
      · rw [show max a (min j c) = c by omega, show max a (min (j + 1) c) = c by omega]; grind
  rw [e, smR_tele (fun j => F (max a (min j c))) 60]
  rw [show max a (min (-30) c) = a by omega, show max a (min (((60 : Nat) : Int) - 30) c) = c by omega]
/-- the shares -/
def twS (b : Rat) (s lo hi : Int) (j : Nat) : Sh := [(lo, 1 - Tl b (lo + 1 - s)), (hi, Tl b (hi - s))] ++ (List.range j).map fun i : Nat => (lo + 1 + i, At b (lo + 1 + i - s))
theorem twS_keys (b : Rat) (s lo hi : Int) (j : Nat) : (twS b s lo hi j).map (·.1) = [lo, hi] ++ (List.range j).map fun i : Nat => lo + 1 + i := by
  unfold twS
  rw [List.map_append, List.map_map]
  rfl
theorem twS_mem {b : Rat} {s lo hi k : Int} {j : Nat} : k ∈ (twS b s lo hi j).map (·.1) ↔ k = lo ∨ k = hi ∨ lo + 1 ≤ k ∧ k < lo + 1 + j := by
  rw [twS_keys, List.mem_append]
  constructor
  · rintro (h | h)
    · simp only [List.mem_cons, List.mem_nil_iff, or_false] at h
      rcases h with h | h
      · exact .inl h
      · exact .inr (.inl h)
    · obtain ⟨i, hi', e⟩ := List.mem_map.mp h
      have := List.mem_range.mp hi'
      omega
  · rintro (h | h | h)
    · exact .inl (by simp [h])
    · exact .inl (by simp [h])
    · exact .inr (List.mem_map.mpr ⟨(k - lo - 1).toNat, List.mem_range.mpr (by omega), by omega⟩)
theorem twS_nd {b : Rat} {s lo hi : Int} {j : Nat} (h : lo < hi) (hj : lo + 1 + j ≤ hi) : ((twS b s lo hi j).map (·.1)).Nodup := by
  rw [twS_keys, List.nodup_append]
  refine ⟨by simp; omega, ?_, fun a ha c hc => ?_⟩
  · rw [List.Nodup, List.pairwise_map]
    exact List.nodup_range.imp fun h e => h (by omega)
  · obtain ⟨i, hi', e⟩ := List.mem_map.mp hc
    have := List.mem_range.mp hi'
    simp only [List.mem_cons, List.mem_nil_iff, or_false] at ha
    omega
theorem valS_eq {ps : Sh} (nd : (ps.map (·.1)).Nodup) {k : Int} {v : Rat} (h : (k, v) ∈ ps) : valS ps k = v := by
  induction ps with
  | nil => cases h
  | cons q r ih =>
    obtain ⟨a, c⟩ := q
    rw [List.map_cons, List.nodup_cons] at nd
    rw [valS_cons]
    rcases List.mem_cons.mp h with e | e
    · cases e; rw [if_pos rfl]
    · rw [if_neg fun z => nd.1 (show a ∈ r.map (·.1) from by rw [← z]; exact List.mem_map_of_mem (f := Prod.fst) e)]
      exact ih nd.2 e
theorem twS_val {b : Rat} (hb : 0 < b) {s lo hi : Int} (h : lo < hi) (k : Int) : valS (twS b s lo hi (hi - lo - 1).toNat) k = Stl b s lo hi k - Stl b s lo hi (k + 1) := by
  have nd := twS_nd (b := b) (s := s) (j := (hi - lo - 1).toNat) h (by omega)
  by_cases h1 : k = lo
  · subst h1
    rw [valS_eq nd (v := 1 - Tl b (k + 1 - s)) (by simp [twS])]
    unfold Stl
    rw [if_pos (Int.le_refl _), if_neg (by omega), if_pos (by omega)]
  · by_cases h2 : k = hi
    · subst h2
      rw [valS_eq nd (v := Tl b (k - s)) (by simp [twS])]
      unfold Stl
      rw [if_neg (by omega), if_pos (by omega), if_neg (by omega), if_neg (by omega)]
      grind
    · by_cases h3 : lo < k ∧ k < hi
      · rw [valS_eq nd (v := At b (k - s)) (by
          unfold twS
          refine List.mem_append_right _ (List.mem_map.mpr ⟨(k - lo - 1).toNat, List.mem_range.mpr (by omega), ?_⟩)
          rw [show lo + 1 + (((k - lo - 1).toNat : Nat) : Int) = k by omega]), Tl_at hb]
        unfold Stl
        rw [if_neg (by omega), if_pos (by omega), if_neg (by omega), if_pos (by omega), show k - s + 1 = k + 1 - s by omega]
      · rw [valS_none (fun hk => by
          have := twS_mem.mp hk
          omega)]
        unfold Stl
        by_cases h4 : k < lo
        · rw [if_pos (by omega), if_pos (by omega)]; grind
        · rw [if_neg (by omega), if_neg (by omega), if_neg (by omega), if_neg (by omega)]; grind
theorem twS_pv {b : Rat} (h : Bs b) {s lo hi : Int} (hl : lo < hi) (l0 : -30 ≤ lo) (h0 : hi < 30) (d1 : s - lo ≤ 22) (d2 : hi - s ≤ 22) (d3 : lo - s ≤ 20) (d4 : s - hi ≤ 20) : Pv (twS b s lo hi (hi - lo - 1).toNat) (Mb b) := by
  have nd := twS_nd (b := b) (s := s) (j := (hi - lo - 1).toNat) hl (by omega)
  have ks : ∀ k : Int, k ∈ (twS b s lo hi (hi - lo - 1).toNat).map (·.1) → -30 ≤ k ∧ k < 30 := fun k hk => by
    have := twS_mem.mp hk
    omega
  have all : ∀ q ∈ twS b s lo hi (hi - lo - 1).toNat, 0 ≤ q.2 ∧ q.2.den ∣ Mb b := fun q hq => by
    unfold twS at hq
    rcases List.mem_append.mp hq with hq | hq
    · simp only [List.mem_cons, List.mem_nil_iff, or_false] at hq
      rcases hq with e | e
      · subst e
        have := Tl_bd h.pos h.lt (lo + 1 - s)
        exact ⟨by simp only; grind, dvd_sub (dvd_one _) (Tl_dvd h (by omega) (by omega))⟩
      · subst e
        exact ⟨(Tl_bd h.pos h.lt (hi - s)).1, Tl_dvd h (by omega) (by omega)⟩
    · obtain ⟨i, hi', e⟩ := List.mem_map.mp hq
      have := List.mem_range.mp hi'
      subst e
      simp only
      refine ⟨At_nn h.pos h.lt _, ?_⟩
      rw [Tl_at h.pos]
      exact dvd_sub (Tl_dvd h (by omega) (by omega)) (Tl_dvd h (by omega) (by omega))
  refine ⟨nd, ks, fun q hq => (all q hq).1, fun q hq => (all q hq).2, ?_⟩
  rw [tot_val nd ks, smR_congr fun k _ _ => twS_val h.pos hl k, smR_tele (Stl b s lo hi) 60]
  unfold Stl
  rw [if_pos (by omega), if_neg (by omega), if_neg (by omega)]
  grind
theorem ev_nd2 {G : Gb} {ρ : En} {k1 v1 k2 v2 : Ex} {a c : Int} {x y : Rat} (h1 : ev G k1 ρ = some (.int a)) (h2 : ev G v1 ρ = some (fr x)) (h3 : ev G k2 ρ = some (.int c)) (h4 : ev G v2 ρ = some (fr y)) (hne : a ≠ c) : evR G (.nd2 k1 v1 k2 v2) ρ = some (.ow (sD [(a, x), (c, y)])) := by
  simp only [evR, h1, h2, h3, h4, Option.bind_some, disp2, keyOf, Option.map_some]
  have e1 := putD_ints (T := G.tups) [] a (fr x)
  have e2 := putD_ints (T := G.tups) (putI [] a (fr x)) c (fr y)
  have e3 : putI ([] : List (Int × D)) a (fr x) = [(a, fr x)] := rfl
  have e4 : putI [(a, fr x)] c (fr y) = [(a, fr x), (c, fr y)] := by
    rw [put_end (by simp; omega)]
    rfl
  rw [e3] at e1 e2
  rw [e4] at e2
  have e1 : putD G.tups [] (.int a) (.k (.inl a)) (fr x) = [(a, fr x)].map kd := e1
  rw [e1, e2]
  rfl
theorem a_twby {b : Rat} (h : Bs b) {s lo hi : Int} (hl : lo ≤ hi) (l0 : -30 ≤ lo) (h0 : hi < 30) (d1 : s - lo ≤ 22) (d2 : hi - s ≤ 22) (d3 : lo - s ≤ 20) (d4 : s - hi ≤ 20) :
    ∃ w, Sp w (Mb b) ∧ (∀ k, pr w k = Stl b s lo hi k - Stl b s lo hi (k + 1)) ∧ ∀ k, k ≤ pl "two_sided_by" → ap (Gk k) "two_sided_by" [.int s, fr b, .int lo, .int hi] = some (spD w) := by
  have q := eq_int (T := (Gk (pl "two_sided_by" + 1)).tups) lo hi
  by_cases he : lo = hi
  · subst he
    rw [decide_eq_true rfl] at q
    have vs : Vs [(lo, 1)] := ⟨by simp, by simp, by simp, by simp, by simp [gcdL]⟩
    refine ⟨[(lo, 1)], ⟨vs, fun k hk => ?_, by simp [tot]⟩, fun k => ?_, at_ rfl rfl ?_⟩
    · simp only [List.map_cons, List.map_nil, List.mem_singleton] at hk
      omega
    · rw [pr_eq vs]
      unfold Stl valW
      rw [List.lookup_cons]
      by_cases hk : k = lo
      · subst hk
        rw [if_pos (Int.le_refl _), if_neg (by omega), if_neg (by omega)]
        simp [tot]
        grind
      · have : (k == lo) = false := beq_eq_false_iff_ne.mpr hk
        rw [this]
        by_cases h1 : k ≤ lo
        · rw [if_pos h1, if_pos (by omega)]
          simp [tot]
          grind
        · rw [if_neg h1, if_neg h1, if_neg (by omega), if_neg (by omega)]
          simp [tot]
          grind
    · refine run_of (ρ := [.fz (.int s), .fz (fr b), .fz (.int lo), .fz (.int lo), .un, .un]) rfl rfl ?_
      unfold K22.f_two_sided_by K22.b_two_sided_by
      refine evSs_rt ?_
      rw [ife_yes (ev_cmp (ev_vv rfl) (ev_vv rfl) q)]
      refine ev_retS ?_
      rfl
  · rw [decide_eq_false he] at q
    have hlt : lo < hi := by omega
    obtain ⟨w, sp, p, r⟩ := a_by' (Mb_pos b) (Mb_lt h) (twS_pv h hlt l0 h0 d1 d2 d3 d4)
    refine ⟨w, sp, fun k => by rw [p, twS_val h.pos hlt], at_ rfl rfl ?_⟩
    have r := r _ (show pl "two_sided_by" + 1 ≤ pl "spread_by" by decide +kernel)
    refine run_of (ρ := [.fz (.int s), .fz (fr b), .fz (.int lo), .fz (.int hi), .un, .un]) rfl rfl ?_
    unfold K22.f_two_sided_by K22.b_two_sided_by
    rw [evSs_nx (ife_nil (ev_cmp (ev_vv rfl) (ev_vv rfl) q))]
    have c1 := a_below h (n := lo + 1 - s) (by omega) (by omega) _ (show pl "two_sided_by" + 1 ≤ pl "chance_below" by decide +kernel)
    have c2 := a_from h (n := hi - s) (by omega) (by omega) _ (show pl "two_sided_by" + 1 ≤ pl "chance_from" by decide +kernel)
    have e1 := ev_nd2 (G := Gk (pl "two_sided_by" + 1)) (ρ := [.fz (.int s), .fz (fr b), .fz (.int lo), .fz (.int hi), .un, .un]) (k1 := .v 2) (k2 := .v 3) (v1 := .call "chance_below" (.cons (.v 1) (.cons (.op .sub (.op .add (.v 2) (.int 1)) (.v 0)) .nil))) (v2 := .call "chance_from" (.cons (.v 1) (.cons (.op .sub (.v 3) (.v 0)) .nil))) (ev_vv rfl) (ev_call2 (ev_vv rfl) (ev_opp (ev_opp (ev_vv rfl) ev_ii (add_i _ _)) (ev_vv rfl) (sub_i _ _)) c1) (ev_vv rfl) (ev_call2 (ev_vv rfl) (ev_opp (ev_vv rfl) (ev_vv rfl) (sub_i _ _)) c2) he
    rw [evSs_nx (ρ' := [.fz (.int s), .fz (fr b), .fz (.int lo), .fz (.int hi), .ow (sD (twS b s lo hi 0)), .un]) (by
      simp only [evS, e1, Option.map_some]
      rfl)]
    obtain ⟨ρ', f1, t5, f2⟩ := forL_rng (P := fun j ρ => ∃ t5, ρ = [.fz (.int s), .fz (fr b), .fz (.int lo), .fz (.int hi), .ow (sD (twS b s lo hi j)), t5]) (fun i : Nat => PyData.int (lo + 1 + i)) (hi - lo - 1).toNat _ ⟨.un, rfl⟩ (step := fun d ρ1 => (bindP (.v 5) d ρ1).bind fun ρ2 => evSs (Gk (pl "two_sided_by" + 1)) (.cons (.put 4 (.v 5) (.call "chance_at" (.cons (.v 1) (.cons (.op .sub (.v 5) (.v 0)) .nil)))) .nil) ρ2) (by
      rintro j ρ hj ⟨t5, rfl⟩
      have c := a_at h (n := lo + 1 + (j : Int) - s) (by omega) _ (show pl "two_sided_by" + 1 ≤ pl "chance_at" by decide +kernel)
      have hk : lo + 1 + (j : Int) ∉ (twS b s lo hi j).map (·.1) := fun hk => by
        have := twS_mem.mp hk
        omega
      have e5 : dputD (Gk (pl "two_sided_by" + 1)).tups (sD (twS b s lo hi j)) (.int (lo + 1 + j)) (fr (At b (lo + 1 + j - s))) = some (sD (twS b s lo hi (j + 1))) := by
        unfold sD
        rw [dput_ints (by simp [sk, twS]; omega), sk_put, put_end hk]
        congr 4
        unfold twS
        rw [List.range_succ, List.map_append, List.append_assoc]
        rfl
      refine ⟨_, ?_, .fz (.int (lo + 1 + j)), rfl⟩
      have ec : ev (Gk (pl "two_sided_by" + 1)) (.call "chance_at" (.cons (.v 1) (.cons (.op .sub (.v 5) (.v 0)) .nil))) [.fz (.int s), .fz (fr b), .fz (.int lo), .fz (.int hi), .ow (sD (twS b s lo hi j)), .fz (.int (lo + 1 + j))] = some (fr (At b (lo + 1 + j - s))) := ev_call2 (ev_vv rfl) (ev_opp (ev_vv rfl) (ev_vv rfl) (sub_i _ _)) c
      show evSs (Gk (pl "two_sided_by" + 1)) _ [.fz (.int s), .fz (fr b), .fz (.int lo), .fz (.int hi), .ow (sD (twS b s lo hi j)), .fz (.int (lo + 1 + j))] = _
      have eo : En.own [.fz (.int s), .fz (fr b), .fz (.int lo), .fz (.int hi), .ow (sD (twS b s lo hi j)), .fz (.int (lo + 1 + j))] 4 = some (sD (twS b s lo hi j)) := rfl
      have e6 : ev (Gk (pl "two_sided_by" + 1)) (.v 5) [.fz (.int s), .fz (fr b), .fz (.int lo), .fz (.int hi), .ow (sD (twS b s lo hi j)), .fz (.int (lo + 1 + j))] = some (.int (lo + 1 + j)) := ev_vv rfl
      rw [evSs_nx (ρ' := [.fz (.int s), .fz (fr b), .fz (.int lo), .fz (.int hi), .ow (sD (twS b s lo hi (j + 1))), .fz (.int (lo + 1 + j))]) (by
        simp only [evS, eo, ec, e6, Option.bind_some, e5, Option.map_some]
        rfl)]
      rfl)
    subst f2
    have it : evI (Gk (pl "two_sided_by" + 1)) (.rng2 (.op .add (.v 2) (.int 1)) (.v 3)) [.fz (.int s), .fz (fr b), .fz (.int lo), .fz (.int hi), .ow (sD (twS b s lo hi 0)), .un] = some ((List.range (hi - lo - 1).toNat).map fun i : Nat => .int (lo + 1 + i)) := by
      have e : evI (Gk (pl "two_sided_by" + 1)) (.rng2 (.op .add (.v 2) (.int 1)) (.v 3)) [.fz (.int s), .fz (fr b), .fz (.int lo), .fz (.int hi), .ow (sD (twS b s lo hi 0)), .un] = (asI (ev (Gk (pl "two_sided_by" + 1)) (.op .add (.v 2) (.int 1)) [.fz (.int s), .fz (fr b), .fz (.int lo), .fz (.int hi), .ow (sD (twS b s lo hi 0)), .un])).bind fun x => (asI (ev (Gk (pl "two_sided_by" + 1)) (.v 3) [.fz (.int s), .fz (fr b), .fz (.int lo), .fz (.int hi), .ow (sD (twS b s lo hi 0)), .un])).bind fun y => rngD x y := by simp only [evI]
      rw [e, ev_opp (ev_vv rfl) ev_ii (add_i lo 1), asI_int, Option.bind_some, ev_vv (d := .int hi) rfl, asI_int, Option.bind_some]
      unfold rngD
      rw [if_pos (by omega), show (hi - (lo + 1)).toNat = (hi - lo - 1).toNat by omega]
    rw [evSs_nx (evS_for it f1)]
    have ez : evS (Gk (pl "two_sided_by" + 1)) (.ret (.call "spread_by" (.cons (.v 4) .nil))) [.fz (.int s), .fz (fr b), .fz (.int lo), .fz (.int hi), .fz (sD (twS b s lo hi (hi - lo - 1).toNat)), t5] = some (.rt (spD w)) := by
      simp only [evS, ev_call1 (G := Gk (pl "two_sided_by" + 1)) (a := .v 4) (ρ := [.fz (.int s), .fz (fr b), .fz (.int lo), .fz (.int hi), .fz (sD (twS b s lo hi (hi - lo - 1).toNat)), t5]) (ev_vv rfl) r, Option.map_some]
    refine evSs_rt ?_
    rw [evS_fz]
    exact ez
theorem a_two {b : Rat} (h : Bs b) {s lo hi : Int} (hl : lo ≤ hi) (l0 : -30 ≤ lo) (h0 : hi < 30) (d1 : s - lo ≤ 22) (d2 : hi - s ≤ 22) (d3 : lo - s ≤ 20) (d4 : s - hi ≤ 20) (d5 : hi - lo ≤ 40) :
    ∃ w, Sp w (Mb b) ∧ (∀ k, pr w k = Stl b s lo hi k - Stl b s lo hi (k + 1)) ∧ ap (Gk 1) "two_sided" [.int s, fr b, .int lo, .int hi] = some (spD w) := by
  obtain ⟨w, sp, p, r⟩ := a_twby h hl l0 h0 d1 d2 d3 d4
  refine ⟨w, sp, p, (at_ (n := "two_sided") rfl rfl ?_) 1 (by decide +kernel)⟩
  have r := r _ (show pl "two_sided" + 1 ≤ pl "two_sided_by" by decide +kernel)
  have c1 := a_score (z := s) (by omega) (by omega) _ (show pl "two_sided" + 1 ≤ pl "is_score" by decide +kernel)
  have c2 := a_isbase h _ (show pl "two_sided" + 1 ≤ pl "is_base" by decide +kernel)
  have c3 := a_score (z := lo) (by omega) (by omega) _ (show pl "two_sided" + 1 ≤ pl "is_score" by decide +kernel)
  have c4 := a_score (z := hi) (by omega) (by omega) _ (show pl "two_sided" + 1 ≤ pl "is_score" by decide +kernel)
  have c5 := a_noise _ (show pl "two_sided" + 1 ≤ pl "check_noise" by decide +kernel)
  have d1 : cmpD (Gk (pl "two_sided" + 1)).tups .le (.int 0) (.int (hi - lo)) = some true := by simp [cmpD]; omega
  have d2 : cmpD (Gk (pl "two_sided" + 1)).tups .le (.int (hi - lo)) (.int 40) = some true := by simp [cmpD]; omega
  have cb : (Gk (pl "two_sided" + 1)).cst "MOST_WIDE" = some (.int 40) := rfl
  refine run_of (ρ := [.fz (.int s), .fz (fr b), .fz (.int lo), .fz (.int hi)]) rfl rfl ?_
  unfold K22.f_two_sided K22.b_two_sided
  rw [evSs_nx (ev_exS (ev_call1 (ev_andT (ev_call1 (ev_vv rfl) c1) (ev_andT (ev_call1 (ev_vv rfl) c2) (ev_andT (ev_call1 (ev_vv rfl) c3) (ev_call1 (ev_vv rfl) c4)))) c5))]
  have e2 : ev (Gk (pl "two_sided" + 1)) (.chain .le .le (.int 0) (.op .sub (.v 3) (.v 2)) (.g "MOST_WIDE")) [.fz (.int s), .fz (fr b), .fz (.int lo), .fz (.int hi)] = some (.bool true) := by
    simp [-List.map_map, xcall, xv, xnon, xbl, xint, xstr, xg, xop, xcmp, xchain, xisN, xnotN, xand, xor, xnot, xite, xbi, xisi, xtup, xlst, xix, xsl, xrev, xget, xlvals, xoget, xolen, evs, evO, evC, evS, evSs, evR, bindP, unpD, freeze, wipeE, En.get, En.own, asB, asI, isNo, sub_i, d1, d2, cb]
  rw [evSs_nx (ev_exS (ev_call1 e2 c5))]
  exact ev_retS (ev_call4 (ev_vv rfl) (ev_vv rfl) (ev_vv rfl) (ev_vv rfl) r)
end PL


set_option Elab.async false
set_option linter.all false
set_option maxRecDepth 100000
set_option exponentiation.threshold 20000
/-! Q2: choice. -/
namespace PL
open PySem
theorem foldl_max : ∀ (l : List Int) (n : Int), n ≤ l.foldl max n ∧ (∀ z ∈ l, z ≤ l.foldl max n) ∧ (l.foldl max n = n ∨ l.foldl max n ∈ l)
  | [], n => ⟨Int.le_refl _, nofun, .inl rfl⟩
  | a :: r, n => by
    obtain ⟨h1, h2, h3⟩ := foldl_max r (max n a)
    rw [List.foldl_cons]
    refine ⟨by omega, fun z hz => ?_, ?_⟩
    · rcases List.mem_cons.mp hz with e | e
      · subst e; omega
      · exact h2 z e
    · rcases h3 with e | e
      · by_cases h : n ≤ a
        · exact .inr (by rw [e, show max n a = a by omega]; exact List.mem_cons_self)
        · exact .inl (by rw [e]; omega)
      · exact .inr (List.mem_cons_of_mem _ e)
theorem foldl_min : ∀ (l : List Int) (n : Int), l.foldl min n ≤ n ∧ (∀ z ∈ l, l.foldl min n ≤ z) ∧ (l.foldl min n = n ∨ l.foldl min n ∈ l)
  | [], n => ⟨Int.le_refl _, nofun, .inl rfl⟩
  | a :: r, n => by
    obtain ⟨h1, h2, h3⟩ := foldl_min r (min n a)
    rw [List.foldl_cons]
    refine ⟨by omega, fun z hz => ?_, ?_⟩
    · rcases List.mem_cons.mp hz with e | e
      · subst e; omega
      · exact h2 z e
    · rcases h3 with e | e
      · by_cases h : a ≤ n
        · exact .inr (by rw [e, show min n a = a by omega]; exact List.mem_cons_self)
        · exact .inl (by rw [e]; omega)
      · exact .inr (List.mem_cons_of_mem _ e)
def scL (m : Nat) (g : Nat → Int) : List Int := (List.range m).map g
theorem bi_max {T : List D} {m : Nat} {g : Nat → Int} (h : 0 < m) : ∃ M : Int, biD T .max [.tuple ((scL m g).map PyData.int)] = some (.int M) ∧ (∀ x, x < m → g x ≤ M) ∧ ∃ x, x < m ∧ M = g x := by
  obtain ⟨n, r, e⟩ := List.exists_cons_of_ne_nil (show scL m g ≠ [] from by intro e; have := congrArg List.length e; simp [scL] at this; omega)
  obtain ⟨h1, h2, h3⟩ := foldl_max r n
  have mem : ∀ z, z ∈ scL m g → z ≤ r.foldl max n := fun z hz => by
    rw [e] at hz
    rcases List.mem_cons.mp hz with e | e
    · subst e; exact h1
    · exact h2 z e
  refine ⟨r.foldl max n, ?_, fun x hx => mem _ (List.mem_map_of_mem (List.mem_range.mpr hx)), ?_⟩
  · simp only [biD, allInts_map, Option.bind_some, e]
  · have : r.foldl max n ∈ scL m g := by
      rw [e]
      rcases h3 with e | e
      · rw [e]; exact List.mem_cons_self
      · exact List.mem_cons_of_mem _ e
    obtain ⟨x, hx, e⟩ := List.mem_map.mp this
    exact ⟨x, List.mem_range.mp hx, e.symm⟩
theorem bi_min {T : List D} {m : Nat} {g : Nat → Int} (h : 0 < m) : ∃ M : Int, biD T .min [.tuple ((scL m g).map PyData.int)] = some (.int M) ∧ (∀ x, x < m → M ≤ g x) ∧ ∃ x, x < m ∧ M = g x := by
  obtain ⟨n, r, e⟩ := List.exists_cons_of_ne_nil (show scL m g ≠ [] from by intro e; have := congrArg List.length e; simp [scL] at this; omega)
  obtain ⟨h1, h2, h3⟩ := foldl_min r n
  have mem : ∀ z, z ∈ scL m g → r.foldl min n ≤ z := fun z hz => by
    rw [e] at hz
    rcases List.mem_cons.mp hz with e | e
    · subst e; exact h1
    · exact h2 z e
  refine ⟨r.foldl min n, ?_, fun x hx => mem _ (List.mem_map_of_mem (List.mem_range.mpr hx)), ?_⟩
  · simp only [biD, allInts_map, Option.bind_some, e]
  · have : r.foldl min n ∈ scL m g := by
      rw [e]
      rcases h3 with e | e
      · rw [e]; exact List.mem_cons_self
      · exact List.mem_cons_of_mem _ e
    obtain ⟨x, hx, e⟩ := List.mem_map.mp this
    exact ⟨x, List.mem_range.mp hx, e.symm⟩
/-- a score's weight -/
def wgt (b : Rat) (M L z : Int) : Int := b.num ^ (M - z).toNat * (b.den : Int) ^ (z - L).toNat
theorem mul_pow' (x y : Rat) : ∀ n : Nat, (x * y) ^ n = x ^ n * y ^ n
  | 0 => by rw [Rat.pow_zero, Rat.pow_zero, Rat.pow_zero]; grind
  | n + 1 => by rw [Rat.pow_succ, Rat.pow_succ, Rat.pow_succ, mul_pow' x y n]; grind
theorem pow_add' (x : Rat) (n : Nat) : ∀ m : Nat, x ^ (n + m) = x ^ n * x ^ m
  | 0 => by rw [Nat.add_zero, Rat.pow_zero]; grind
  | m + 1 => by rw [← Nat.add_assoc, Rat.pow_succ, Rat.pow_succ, pow_add' x n m]; grind
theorem wgt_rat (b : Rat) {M L z : Int} (h1 : L ≤ z) (h2 : z ≤ M) : (wgt b M L z : Rat) = b ^ (M - z).toNat * (b.den : Rat) ^ (M - L).toNat := by
  unfold wgt
  have e := den_mul b
  rw [Rat.intCast_mul, Rat.intCast_pow, Rat.intCast_pow, Rat.intCast_natCast, ← e, mul_pow', show (M - L).toNat = (M - z).toNat + (z - L).toNat by omega, pow_add']
  grind
theorem wgt_pos {b : Rat} (h : Bs b) (M L z : Int) : 0 < wgt b M L z := Int.mul_pos (Int.pow_pos h.num.1) (Int.pow_pos (by have := b.den_pos; omega))
theorem wgt_lt {b : Rat} (h : Bs b) {M L z : Int} (h1 : M - z ≤ 14) (h2 : z - L ≤ 14) : wgt b M L z < 2 ^ 120 := by
  have e : (wgt b M L z).natAbs < 2 ^ 60 * 2 ^ 60 := by
    unfold wgt
    rw [Int.natAbs_mul]
    have key : ∀ (a : Int) (k : Nat), a.natAbs < 2 ^ 3 → k ≤ 14 → (a ^ k).natAbs < 2 ^ 60 := fun a k ha hk => by
      rw [Int.natAbs_pow]
      have h1 : a.natAbs ^ k ≤ (2 ^ 3) ^ k := Nat.pow_le_pow_left (Nat.le_of_lt ha) k
      have h2 : (2 ^ 3) ^ k ≤ (2 ^ 3) ^ 14 := Nat.pow_le_pow_right (by decide) hk
      have h3 : (2 ^ 3) ^ 14 < 2 ^ 60 := by decide
      omega
    exact Nat.mul_lt_mul'' (key _ _ h.s3.1 (by omega)) (key _ _ (by simpa using h.s3.2) (by omega))
  have := wgt_pos h M L z
  have e2 : 2 ^ 60 * 2 ^ 60 = 2 ^ 120 := by decide
  omega
def wgW (b : Rat) (M L : Int) (m : Nat) (g : Nat → Int) : Wt := (List.range m).map fun x : Nat => ((x : Int), wgt b M L (g x))
theorem wgW_keys (b : Rat) (M L : Int) (m : Nat) (g : Nat → Int) : (wgW b M L m g).map (·.1) = (List.range m).map fun x : Nat => (x : Int) := by
  unfold wgW
  rw [List.map_map]
  rfl
theorem int_frac (p : Int) : fr (p : Rat) = .tuple [.int p, .int 1] := rfl
theorem choice_loop {b : Rat} (h : Bs b) {M L : Int} {m : Nat} (m5 : m ≤ 20) {g : Nat → Int} (hM : ∀ x, x < m → g x ≤ M) (hL : ∀ x, x < m → L ≤ g x) (hd : M - L ≤ 14) (x0 x1 : Sl) : ∃ t7 t8, forL (fun d ρ1 => (bindP (.cons (.v 7) (.cons (.v 8) .nil)) d ρ1).bind fun ρ2 => evSs (Gk (pl "choice_by" + 1)) (.cons (.put 6 (.v 7) (.op .mul (.ix (.call "power_of" (.cons (.tup (.cons (.v 4) (.cons (.int 1) .nil))) (.cons (.op .sub (.v 2) (.v 8)) .nil))) (.int 0)) (.ix (.call "power_of" (.cons (.tup (.cons (.v 5) (.cons (.int 1) .nil))) (.cons (.op .sub (.v 8) (.v 3)) .nil))) (.int 0)))) .nil) ρ2) ((List.range m).map fun x : Nat => .tuple [.int (x : Int), .int (g x)]) [x0, x1, .fz (.int M), .fz (.int L), .fz (.int b.num), .fz (.int (b.den : Int)), .ow (wD (wgW b M L 0 g)), .un, .un] = some (.nx [x0, x1, .fz (.int M), .fz (.int L), .fz (.int b.num), .fz (.int (b.den : Int)), .ow (wD (wgW b M L m g)), t7, t8]) := by
  obtain ⟨ρ', h1, t7, t8, h2⟩ := forL_rng (P := fun j ρ => ∃ t7 t8, ρ = [x0, x1, .fz (.int M), .fz (.int L), .fz (.int b.num), .fz (.int (b.den : Int)), .ow (wD (wgW b M L j g)), t7, t8]) (fun x : Nat => PyData.tuple [.int (x : Int), .int (g x)]) m _ ⟨.un, .un, rfl⟩ (step := fun d ρ1 => (bindP (.cons (.v 7) (.cons (.v 8) .nil)) d ρ1).bind fun ρ2 => evSs (Gk (pl "choice_by" + 1)) (.cons (.put 6 (.v 7) (.op .mul (.ix (.call "power_of" (.cons (.tup (.cons (.v 4) (.cons (.int 1) .nil))) (.cons (.op .sub (.v 2) (.v 8)) .nil))) (.int 0)) (.ix (.call "power_of" (.cons (.tup (.cons (.v 5) (.cons (.int 1) .nil))) (.cons (.op .sub (.v 8) (.v 3)) .nil))) (.int 0)))) .nil) ρ2) (by
    rintro j ρ hj ⟨t7, t8, rfl⟩
    have g1 := hM j hj
    have g2 := hL j hj
    have c1 := a_pow (r := ((b.num : Int) : Rat)) h.s3.1 (show (1 : Nat) < 2 ^ 3 by decide) (n := (M - g j).toNat) (by omega) _ (show pl "choice_by" + 1 ≤ pl "power_of" by decide +kernel)
    have c2 := a_pow (r := (((b.den : Int) : Int) : Rat)) (show ((b.den : Int)).natAbs < 2 ^ 3 by simpa using h.s3.2) (show (1 : Nat) < 2 ^ 3 by decide) (n := (g j - L).toNat) (by omega) _ (show pl "choice_by" + 1 ≤ pl "power_of" by decide +kernel)
    rw [Int.toNat_of_nonneg (by omega), int_frac, fr_pow] at c1 c2
    have m1 : opD .mul (.int (b.num ^ (M - g j).toNat)) (.int ((b.den : Int) ^ (g j - L).toNat)) = some (.int (wgt b M L (g j))) := mul_ok (pow_small h.s3.1 (by omega)) (pow_small (a := (b.den : Int)) (by simpa using h.s3.2) (by omega)) (by decide) (by decide) (by decide)
    have hk : (j : Int) ∉ (wk (wgW b M L j g)).map (·.1) := by
      rw [wk_keys, wgW_keys]
      intro hk
      obtain ⟨y, hy, e⟩ := List.mem_map.mp hk
      have := List.mem_range.mp hy
      omega
    have e5 : dputD (Gk (pl "choice_by" + 1)).tups (wD (wgW b M L j g)) (.int (j : Int)) (.int (wgt b M L (g j))) = some (wD (wgW b M L (j + 1) g)) := by
      unfold wD
      rw [dput_ints (by simp [wk, wgW]; omega), put_end hk]
      congr 3
      unfold wk wgW
      rw [List.range_succ, List.map_append, List.map_append]
      rfl
    have q0 : ∀ x y : D, ixD (Gk (pl "choice_by" + 1)).tups (.tuple [x, y]) (.int 0) = some x := fun _ _ => rfl
    refine ⟨_, ?_, .fz (.int (j : Int)), .fz (.int (g j)), rfl⟩
    have ec : ev (Gk (pl "choice_by" + 1)) (.op .mul (.ix (.call "power_of" (.cons (.tup (.cons (.v 4) (.cons (.int 1) .nil))) (.cons (.op .sub (.v 2) (.v 8)) .nil))) (.int 0)) (.ix (.call "power_of" (.cons (.tup (.cons (.v 5) (.cons (.int 1) .nil))) (.cons (.op .sub (.v 8) (.v 3)) .nil))) (.int 0))) [x0, x1, .fz (.int M), .fz (.int L), .fz (.int b.num), .fz (.int (b.den : Int)), .ow (wD (wgW b M L j g)), .fz (.int (j : Int)), .fz (.int (g j))] = some (.int (wgt b M L (g j))) :=
      ev_opp (ev_ixx (ev_call2 (ev_tup2 (ev_vv rfl) ev_ii) (ev_opp (ev_vv rfl) (ev_vv rfl) (sub_i _ _)) c1) ev_ii (q0 _ _)) (ev_ixx (ev_call2 (ev_tup2 (ev_vv rfl) ev_ii) (ev_opp (ev_vv rfl) (ev_vv rfl) (sub_i _ _)) c2) ev_ii (q0 _ _)) m1
    show evSs (Gk (pl "choice_by" + 1)) _ [x0, x1, .fz (.int M), .fz (.int L), .fz (.int b.num), .fz (.int (b.den : Int)), .ow (wD (wgW b M L j g)), .fz (.int (j : Int)), .fz (.int (g j))] = _
    have eo : En.own [x0, x1, .fz (.int M), .fz (.int L), .fz (.int b.num), .fz (.int (b.den : Int)), .ow (wD (wgW b M L j g)), .fz (.int (j : Int)), .fz (.int (g j))] 6 = some (wD (wgW b M L j g)) := rfl
    have e6 : ev (Gk (pl "choice_by" + 1)) (.v 7) [x0, x1, .fz (.int M), .fz (.int L), .fz (.int b.num), .fz (.int (b.den : Int)), .ow (wD (wgW b M L j g)), .fz (.int (j : Int)), .fz (.int (g j))] = some (.int (j : Int)) := ev_vv rfl
    rw [evSs_nx (ρ' := [x0, x1, .fz (.int M), .fz (.int L), .fz (.int b.num), .fz (.int (b.den : Int)), .ow (wD (wgW b M L (j + 1) g)), .fz (.int (j : Int)), .fz (.int (g j))]) (by
      simp only [evS, eo, ec, e6, Option.bind_some, e5, Option.map_some]
      rfl)]
    rfl)
  subst h2
  exact ⟨t7, t8, h1⟩
theorem wgW_tot {b : Rat} (h : Bs b) {M L : Int} {m : Nat} (m0 : 0 < m) (g : Nat → Int) : 0 < tot (wgW b M L m g) := by
  have h1 := tot_pos (w := wgW b M L m g) (by
    intro e
    have := congrArg List.length e
    simp [wgW] at this
    omega) (fun q hq => by
    obtain ⟨x, _, e⟩ := List.mem_map.mp hq
    subst e
    have := wgt_pos h M L (g x)
    simp only
    omega)
  exact h1
theorem wgW_val {b : Rat} {M L : Int} {m : Nat} (g : Nat → Int) (k : Int) : (valW (wgW b M L m g) k : Rat) = if 0 ≤ k ∧ k < m then (wgt b M L (g k.toNat) : Rat) else 0 := by
  rw [← wS_val]
  have e : wS (wgW b M L m g) = (List.range m).map fun x : Nat => ((x : Int), (fun k : Int => (wgt b M L (g k.toNat) : Rat)) x) := by
    unfold wS wgW
    rw [List.map_map]
    rfl
  rw [e]
  exact val_rng (fun k : Int => (wgt b M L (g k.toNat) : Rat)) k m
theorem wgW_le {b : Rat} (h : Bs b) {M L : Int} {m : Nat} {g : Nat → Int} (hM : ∀ x, x < m → g x ≤ M) (hL : ∀ x, x < m → L ≤ g x) : tot (wgW b M L m g) ≤ m * (5 ^ (M - L).toNat : Nat) := by
  have key : ∀ j, j ≤ m → tot (wgW b M L j g) ≤ j * (5 ^ (M - L).toNat : Nat) := by
    intro j
    induction j with
    | zero => intro _; simp [wgW, tot]
    | succ j ih =>
      intro hj
      have ih := ih (by omega)
      have e : tot (wgW b M L (j + 1) g) = tot (wgW b M L j g) + wgt b M L (g j) := by
        unfold tot wgW
        rw [List.range_succ, List.map_append, List.map_append, List.sum_append]
        simp
      have hw : wgt b M L (g j) ≤ ((5 ^ (M - L).toNat : Nat) : Int) := by
        have g1 := hM j (by omega)
        have g2 := hL j (by omega)
        have e2 : (M - L).toNat = (M - g j).toNat + (g j - L).toNat := by omega
        have hp := wgt_pos h M L (g j)
        have h1 : (wgt b M L (g j)).natAbs ≤ 5 ^ (M - L).toNat := by
          unfold wgt
          rw [Int.natAbs_mul, Int.natAbs_pow, Int.natAbs_pow, e2, Nat.pow_add]
          have hn := h.num
          have hd := h.den
          exact Nat.mul_le_mul (Nat.pow_le_pow_left (by omega) _) (Nat.pow_le_pow_left (by simpa using hd) _)
        omega
      rw [e]
      push_cast at ih hw ⊢
      rw [Int.add_mul]
      omega
  exact key m (Nat.le_refl _)
/-- an index chosen -/
theorem a_choice {b : Rat} (h : Bs b) {m : Nat} (m1 : 1 ≤ m) (m5 : m ≤ 5) {g : Nat → Int} (hg : ∀ x, x < m → -7 ≤ g x ∧ g x ≤ 7) :
    ∃ (w : Wt) (T : Nat) (c : Rat), 0 < T ∧ T < 2 ^ 60 ∧ Sp w T ∧ (∀ k : Int, pr w k = if 0 ≤ k ∧ k < m then c * b ^ (7 - g k.toNat).toNat else 0) ∧ ap (Gk 1) "choice" [.tuple ((scL m g).map PyData.int), fr b] = some (spD w) := by
  obtain ⟨M, eM, hM, xM, xM1, xM2⟩ := bi_max (T := (Gk (pl "choice_by" + 1)).tups) (m := m) (g := g) m1
  obtain ⟨L, eL, hL, xL, xL1, xL2⟩ := bi_min (T := (Gk (pl "choice_by" + 1)).tups) (m := m) (g := g) m1
  have gM := hg xM xM1
  have gL := hg xL xL1
  have ML : L ≤ M := by have := hM xL xL1; omega
  have tp := wgW_tot h (M := M) (L := L) m1 g
  have tl := wgW_le h hM hL
  have t60 : (tot (wgW b M L m g)).toNat < 2 ^ 60 := by
    have h1 : 5 ^ (M - L).toNat ≤ 5 ^ 14 := Nat.pow_le_pow_right (by decide) (by omega)
    have h2 : m * 5 ^ (M - L).toNat ≤ 5 * 5 ^ 14 := Nat.mul_le_mul m5 h1
    have h3 : 5 * 5 ^ 14 < 2 ^ 60 := by decide
    have h4 : tot (wgW b M L m g) ≤ ((m * 5 ^ (M - L).toNat : Nat) : Int) := by push_cast; push_cast at tl; exact tl
    omega
  have nd : ((wgW b M L m g).map (·.1)).Nodup := by rw [wgW_keys]; exact range_nd m
  obtain ⟨sp, hp, ex⟩ := nrm_sp (w := wgW b M L m g) (M := (tot (wgW b M L m g)).toNat) nd (fun k hk => by
    rw [wgW_keys] at hk
    obtain ⟨x, hx, e⟩ := List.mem_map.mp hk
    have := List.mem_range.mp hx
    omega) (fun q hq => by
    obtain ⟨x, _, e⟩ := List.mem_map.mp hq
    subst e
    exact Int.le_of_lt (wgt_pos h M L (g x))) tp (Nat.dvd_refl _)
  have by_ : ∀ k, k ≤ pl "choice_by" → ap (Gk k) "choice_by" [.tuple ((scL m g).map PyData.int), fr b] = some (spD (nrm (wgW b M L m g))) := by
    refine at_ (n := "choice_by") rfl rfl ?_
    have c5 := a_sow (wgW b M L m g) nd (by simp [wgW]; omega) ex (fun q hq => by
      obtain ⟨x, hx, e⟩ := List.mem_map.mp hq
      have hx := List.mem_range.mp hx
      subst e
      have h1 := wgt_lt h (M := M) (L := L) (z := g x) (by have := hM x hx; have := hg x hx; omega) (by have := hL x hx; have := hg x hx; omega)
      have h2 := wgt_pos h M L (g x)
      have h3 : 2 ^ 120 < 2 ^ 250 := by decide
      simp only
      omega) _ (show pl "choice_by" + 1 ≤ pl "spread_of_weights" by decide +kernel)
    refine run_of (ρ := [.fz (.tuple ((scL m g).map PyData.int)), .fz (fr b), .un, .un, .un, .un, .un, .un, .un]) rfl rfl ?_
    unfold K22.f_choice_by K22.b_choice_by
    have e1 := ev_bi1 (G := Gk (pl "choice_by" + 1)) (f := .max) (a := .v 0) (ρ := [.fz (.tuple ((scL m g).map PyData.int)), .fz (fr b), .un, .un, .un, .un, .un, .un, .un]) (ev_vv rfl) eM
    have e2 := ev_bi1 (G := Gk (pl "choice_by" + 1)) (f := .min) (a := .v 0) (ρ := [.fz (.tuple ((scL m g).map PyData.int)), .fz (fr b), .un, .un, .un, .un, .un, .un, .un]) (ev_vv rfl) eL
    rw [evSs_nx (ρ' := [.fz (.tuple ((scL m g).map PyData.int)), .fz (fr b), .fz (.int M), .fz (.int L), .un, .un, .un, .un, .un]) (by
      simp only [evS, evR, e1, e2, Option.map_some, Option.bind_some]
      rfl)]
    rw [evSs_nx (ρ' := [.fz (.tuple ((scL m g).map PyData.int)), .fz (fr b), .fz (.int M), .fz (.int L), .fz (.int b.num), .fz (.int (b.den : Int)), .un, .un, .un]) (by rfl)]
    rw [evSs_nx (ρ' := [.fz (.tuple ((scL m g).map PyData.int)), .fz (fr b), .fz (.int M), .fz (.int L), .fz (.int b.num), .fz (.int (b.den : Int)), .ow (wD (wgW b M L 0 g)), .un, .un]) (by rfl)]
    obtain ⟨t7, t8, hf⟩ := choice_loop h (m := m) (by omega) hM hL (by omega) (.fz (.tuple ((scL m g).map PyData.int))) (.fz (fr b))
    have it : evI (Gk (pl "choice_by" + 1)) (.enum (.v 0)) [.fz (.tuple ((scL m g).map PyData.int)), .fz (fr b), .fz (.int M), .fz (.int L), .fz (.int b.num), .fz (.int (b.den : Int)), .ow (wD (wgW b M L 0 g)), .un, .un] = some ((List.range m).map fun x : Nat => .tuple [.int (x : Int), .int (g x)]) := by
      show enumI (.tuple ((scL m g).map PyData.int)) = _
      simp only [enumI, enumD, scL]
      congr 1
      have key : ∀ n : Nat, (((List.range n).map g).map PyData.int).zipIdx.map (fun p => PyData.tuple [.int (p.2 : Int), p.1]) = (List.range n).map fun x : Nat => PyData.tuple [.int (x : Int), .int (g x)] := by
        intro n
        induction n with
        | zero => rfl
        | succ n ih =>
          rw [List.range_succ, List.map_append, List.map_append, List.zipIdx_append, List.map_append, ih, List.map_append]
          simp
      exact key m
    rw [evSs_nx (evS_for it hf)]
    have ez : evS (Gk (pl "choice_by" + 1)) (.ret (.call "spread_of_weights" (.cons (.v 6) .nil))) [.fz (.tuple ((scL m g).map PyData.int)), .fz (fr b), .fz (.int M), .fz (.int L), .fz (.int b.num), .fz (.int (b.den : Int)), .fz (wD (wgW b M L m g)), t7, t8] = some (.rt (spD (nrm (wgW b M L m g)))) := by
      simp only [evS, ev_call1 (G := Gk (pl "choice_by" + 1)) (a := .v 6) (ρ := [.fz (.tuple ((scL m g).map PyData.int)), .fz (fr b), .fz (.int M), .fz (.int L), .fz (.int b.num), .fz (.int (b.den : Int)), .fz (wD (wgW b M L m g)), t7, t8]) (ev_vv rfl) c5, Option.map_some]
    refine evSs_rt ?_
    rw [evS_fz]
    exact ez
  have sc : ∀ k, k ≤ pl "are_scores" → ap (Gk k) "are_scores" [.tuple ((scL m g).map PyData.int), .int 20] = some (.bool true) := by
    refine at_ (n := "are_scores") rfl rfl ?_
    refine run_of (ρ := [.fz (.tuple ((scL m g).map PyData.int)), .fz (.int 20), .un]) rfl rfl ?_
    unfold K22.f_are_scores K22.b_are_scores
    have c1 := ev_all (G := Gk (pl "are_scores" + 1)) (own := [2]) (e := .call "is_score" (.cons (.v 2) .nil)) (p := .v 2) (it := .seq (.v 0)) (ρ := [.fz (.tuple ((scL m g).map PyData.int)), .fz (.int 20), .un]) (g := PyData.int) (bs := scL m g) rfl fun z hz => by
      obtain ⟨x, hx, e⟩ := List.mem_map.mp hz
      have hx := hg x (List.mem_range.mp hx)
      have f1 := a_score (z := z) (by omega) (by omega) _ (show pl "are_scores" + 1 ≤ pl "is_score" by decide +kernel)
      unfold stepL
      simp [-List.map_map, xcall, xv, xnon, xbl, xint, xstr, xg, xop, xcmp, xchain, xisN, xnotN, xand, xor, xnot, xite, xbi, xisi, xtup, xlst, xix, xsl, xrev, xget, xlvals, xoget, xolen, evs, evO, evC, evS, evSs, evR, bindP, unpD, freeze, wipeE, En.get, En.own, asB, asI, isNo, f1]
    have hl : biD (Gk (pl "are_scores" + 1)).tups .len [.tuple ((scL m g).map PyData.int)] = some (.int (m : Int)) := by simp [biD, scL]
    have d1 : cmpD (Gk (pl "are_scores" + 1)).tups .le (.int 1) (.int (m : Int)) = some true := by simp [cmpD]; omega
    have d2 : cmpD (Gk (pl "are_scores" + 1)).tups .le (.int (m : Int)) (.int 20) = some true := by simp [cmpD]; omega
    have e2 : ev (Gk (pl "are_scores" + 1)) (.chain .le .le (.int 1) (.bi .len (.cons (.v 0) .nil)) (.v 1)) [.fz (.tuple ((scL m g).map PyData.int)), .fz (.int 20), .un] = some (.bool true) := by
      simp [-List.map_map, xcall, xv, xnon, xbl, xint, xstr, xg, xop, xcmp, xchain, xisN, xnotN, xand, xor, xnot, xite, xbi, xisi, xtup, xlst, xix, xsl, xrev, xget, xlvals, xoget, xolen, evs, evO, evC, evS, evSs, evR, bindP, unpD, freeze, wipeE, En.get, En.own, asB, asI, isNo, hl, d1, d2]
    have e0 : ev (Gk (pl "are_scores" + 1)) (.isi (.v 0) "tuple") [.fz (.tuple ((scL m g).map PyData.int)), .fz (.int 20), .un] = some (.bool true) := by
      rw [xisi, ev_vv (d := .tuple ((scL m g).map PyData.int)) rfl]
      rfl
    exact ev_retS (ev_andT e0 (ev_andT e2 c1))
  refine ⟨nrm (wgW b M L m g), (tot (wgW b M L m g)).toNat, (b.den : Rat) ^ (M - L).toNat / ((tot (wgW b M L m g) : Int) : Rat) / b ^ (7 - M).toNat, by omega, t60, sp, fun k => ?_, ?_⟩
  · rw [hp, wgW_val]
    by_cases hk : 0 ≤ k ∧ k < m
    · rw [if_pos hk, if_pos hk, wgt_rat b (hL _ (by omega)) (hM _ (by omega))]
      have h1 := hM k.toNat (by omega)
      have h2 := hg k.toNat (by omega)
      rw [show (7 - g k.toNat).toNat = (7 - M).toNat + (M - g k.toNat).toNat by omega, pow_add']
      have hb := pow_pos' h.pos (7 - M).toNat
      have ht : ((tot (wgW b M L m g) : Int) : Rat) ≠ 0 := by exact_mod_cast (Int.ne_of_gt tp)
      generalize b ^ (7 - M).toNat = x at *
      generalize b ^ (M - g k.toNat).toNat = y at *
      generalize ((tot (wgW b M L m g) : Int) : Rat) = t at *
      generalize (b.den : Rat) ^ (M - L).toNat = d at *
      have hx : x ≠ 0 := by grind
      grind
    · rw [if_neg hk, if_neg hk]
      grind
  · refine (at_ (n := "choice") rfl rfl ?_) 1 (by decide +kernel)
    have r := by_ _ (show pl "choice" + 1 ≤ pl "choice_by" by decide +kernel)
    have r2 := sc _ (show pl "choice" + 1 ≤ pl "are_scores" by decide +kernel)
    have c2 := a_isbase h _ (show pl "choice" + 1 ≤ pl "is_base" by decide +kernel)
    have c5 := a_noise _ (show pl "choice" + 1 ≤ pl "check_noise" by decide +kernel)
    refine run_of (ρ := [.fz (.tuple ((scL m g).map PyData.int)), .fz (fr b)]) rfl rfl ?_
    unfold K22.f_choice K22.b_choice
    rw [evSs_nx (ev_exS (ev_call1 (ev_andT (ev_call2 (ev_vv rfl) (ev_gg (cA _)) r2) (ev_call1 (ev_vv rfl) c2)) c5))]
    exact ev_retS (ev_call2 (ev_vv rfl) (ev_vv rfl) r)
end PL


set_option Elab.async false
set_option linter.all false
set_option maxRecDepth 100000
set_option exponentiation.threshold 20000
/-! Q3: noise mapped; choices beside one another. -/
namespace PL
open PySem
theorem map_one {w : Wt} {M : Nat} (s : Sp w M) {f : Int → Int} {c k : Int} (h : ∀ j, j ∈ w.map (·.1) → (f j = k ↔ j = c)) : smR 60 (fun j => if f j = k then pr w j else 0) = pr w c := by
  by_cases hc : -30 ≤ c ∧ c < 30
  · rw [← smR_one (n := 60) c hc.1 (by omega) (pr w c)]
    refine smR_congr fun j _ _ => ?_
    by_cases hj : j ∈ w.map (·.1)
    · by_cases e : j = c
      · rw [if_pos ((h j hj).mpr e), if_pos e, e]
      · rw [if_neg fun z => e ((h j hj).mp z), if_neg e]
    · rw [pr_none hj]
      by_cases e : j = c
      · rw [if_pos e, ← e, pr_none hj]; split <;> rfl
      · rw [if_neg e]; split <;> rfl
  · rw [pr_out s hc]
    refine sum_zero_r fun x hx => ?_
    show (if f ((x : Int) - 30) = k then pr w ((x : Int) - 30) else 0) = 0
    have hx := List.mem_range.mp hx
    by_cases hj : ((x : Int) - 30) ∈ w.map (·.1)
    · rw [if_neg fun z => ?_]
      have := (h _ hj).mp z
      omega
    · rw [pr_none hj]; split <;> rfl
theorem map_part {w : Wt} {F : Int → Rat} (hp : ∀ k, pr w k = F k - F (k + 1)) {f : Int → Int} {a c k : Int} (ha : -30 ≤ a) (hac : a ≤ c) (hc : c ≤ 30) (h : ∀ j, j ∈ w.map (·.1) → (f j = k ↔ a ≤ j ∧ j < c)) : smR 60 (fun j => if f j = k then pr w j else 0) = F a - F c := by
  rw [← smR_part F ha hac hc]
  refine smR_congr fun j _ _ => ?_
  by_cases hj : j ∈ w.map (·.1)
  · by_cases e : a ≤ j ∧ j < c
    · rw [if_pos ((h j hj).mpr e), if_pos e, hp]
    · rw [if_neg fun z => e ((h j hj).mp z), if_neg e]
  · have z := pr_none hj
    rw [z]
    rw [hp] at z
    rw [z]
    split <;> split <;> rfl
/-- pairs of a piece of the numbers -/
def prO (lo : Int) (n : Nat) (F : Int → Int) : Wt := (List.range n).map fun x : Nat => (lo + x, F (lo + x))
theorem prO_keys (lo : Int) (n : Nat) (F : Int → Int) : (prO lo n F).map (·.1) = (List.range n).map fun x : Nat => lo + x := by
  unfold prO
  rw [List.map_map]
  rfl
theorem prO_nd (lo : Int) (n : Nat) (F : Int → Int) : ((prO lo n F).map (·.1)).Nodup := by
  rw [prO_keys, List.Nodup, List.pairwise_map]
  exact List.nodup_range.imp fun h e => h (by omega)
theorem prO_mem {lo : Int} {n : Nat} {F : Int → Int} {j : Int} (h0 : lo ≤ j) (h1 : j < lo + n) : (j, F j) ∈ prO lo n F := List.mem_map.mpr ⟨(j - lo).toNat, List.mem_range.mpr (by omega), by rw [show lo + (((j - lo).toNat : Nat) : Int) = j by omega]⟩
theorem prO_val {lo : Int} {n : Nat} {F : Int → Int} {j : Int} (h0 : lo ≤ j) (h1 : j < lo + n) : valW (prO lo n F) j = F j := by
  unfold valW
  rw [(lookup_mem_iff (prO_nd lo n F)).mpr (prO_mem h0 h1)]
  rfl
theorem map_by {w : Wt} {M : Nat} (hM : 0 < M) (hM1 : M < 2 ^ 64) (sp : Sp w M) {lo : Int} {n : Nat} (F : Int → Int) (hn : 0 < n) (sup : ∀ j : Int, j ∈ w.map (·.1) → lo ≤ j ∧ j < lo + n) (hF : ∀ j, lo ≤ j → j < lo + n → -30 ≤ F j ∧ F j < 30) :
    ∃ w', Sp w' M ∧ (∀ k, pr w' k = smR 60 fun j => if valW (prO lo n F) j = k then pr w j else 0) ∧ ap (Gk 1) "mapped" [spD w, rowsD (prO lo n F)] = some (spD w') ∧ ∀ j : Int, j ∈ w.map (·.1) → valW (prO lo n F) j = F j := by
  obtain ⟨w', s, p, r⟩ := a_mapped hM hM1 sp (pairs := prO lo n F) (by
    intro e
    have := congrArg List.length e
    simp [prO] at this
    omega) (prO_nd lo n F) (fun q hq => by
    obtain ⟨x, hx, e⟩ := List.mem_map.mp hq
    have hx := List.mem_range.mp hx
    subst e
    exact hF _ (by omega) (by omega)) (fun q hq => by
    have h := sup q.1 (List.mem_map_of_mem hq)
    have h2 := prO_mem (F := F) (j := q.1) h.1 h.2
    have h3 := List.mem_map_of_mem (f := Prod.fst) h2
    exact h3)
  exact ⟨w', s, p, r 1 (by decide +kernel), fun j hj => prO_val (sup j hj).1 (sup j hj).2⟩
theorem Stl_sup {w : Wt} (v : Vs w) {b : Rat} {s lo hi : Int} (hl : lo ≤ hi) (hp : ∀ k, pr w k = Stl b s lo hi k - Stl b s lo hi (k + 1)) : ∀ j : Int, j ∈ w.map (·.1) → lo ≤ j ∧ j ≤ hi := fun j hj => by
  have h := pr_pos v hj
  rw [hp] at h
  refine Decidable.byContradiction fun hn => ?_
  unfold Stl at h
  by_cases h1 : j < lo
  · rw [if_pos (by omega), if_pos (by omega)] at h; grind
  · rw [if_neg (by omega), if_neg (by omega), if_neg (by omega), if_neg (by omega)] at h; grind
/-- moved -/
theorem Stl_move (b : Rat) (s lo hi v k : Int) : Stl b (s + v) (lo + v) (hi + v) k = Stl b s lo hi (k - v) := by
  unfold Stl
  by_cases h1 : k ≤ lo + v
  · rw [if_pos h1, if_pos (by omega)]
  · have h1' : ¬ k - v ≤ lo := by omega
    rw [if_neg h1, if_neg h1']
    by_cases h2 : k ≤ hi + v
    · have h2' : k - v ≤ hi := by omega
      rw [if_pos h2, if_pos h2', show k - (s + v) = k - v - s by omega]
    · have h2' : ¬ k - v ≤ hi := by omega
      rw [if_neg h2, if_neg h2']
/-- mirrored -/
theorem Stl_flip (b : Rat) {s lo hi : Int} (hl : lo ≤ hi) (k : Int) : Stl b (0 - s) (0 - hi) (0 - lo) k = 1 - Stl b s lo hi (1 - k) := by
  unfold Stl
  by_cases h1 : k ≤ 0 - hi
  · rw [if_pos h1, if_neg (by omega), if_neg (by omega)]; grind
  · by_cases h2 : k ≤ 0 - lo
    · rw [if_neg h1, if_pos h2, if_neg (by omega), if_pos (by omega), show 1 - k - s = 1 - (k - (0 - s)) by omega, Tl_sym]; grind
    · rw [if_neg h1, if_neg h2, if_pos (by omega)]; grind
/-- a greater score -/
theorem Stl_mono {b : Rat} (h : Bs b) {s t lo hi : Int} (hst : s ≤ t) (k : Int) : Stl b s lo hi k ≤ Stl b t lo hi k := by
  unfold Stl
  split
  · exact Rat.le_refl
  · split
    · have := Tl_anti h.pos h.lt (k - t) (t - s).toNat
      rw [show k - t + (((t - s).toNat : Nat) : Int) = k - s by omega] at this
      exact this
    · exact Rat.le_refl
theorem Stl_bd {b : Rat} (h : Bs b) (s lo hi k : Int) : 0 ≤ Stl b s lo hi k ∧ Stl b s lo hi k ≤ 1 := by
  unfold Stl
  split
  · exact ⟨by decide, by decide⟩
  · split
    · exact Tl_bd h.pos h.lt _
    · exact ⟨by decide, by decide⟩
theorem Stl_dvd {b : Rat} (h : Bs b) {s lo hi k : Int} (h1 : -22 ≤ lo - s) (h2 : hi - s ≤ 23) : (Stl b s lo hi k).den ∣ Mb b := by
  unfold Stl
  split
  · exact dvd_one _
  · split
    · exact Tl_dvd h (by omega) (by omega)
    · exact dvd_zero _
/-- put to nearer ends -/
theorem Stl_clamp {w : Wt} {b : Rat} {s lo hi lw hw : Int} (hl : lo ≤ hi) (l1 : lw ≤ lo) (h1 : hi ≤ hw) (l0 : -30 ≤ lw) (h0 : hw < 30) (v : Vs w) (hp : ∀ k, pr w k = Stl b s lw hw k - Stl b s lw hw (k + 1)) {f : Int → Int} (hf : ∀ j : Int, j ∈ w.map (·.1) → f j = max lo (min hi j)) (k : Int) : smR 60 (fun j => if f j = k then pr w j else 0) = Stl b s lo hi k - Stl b s lo hi (k + 1) := by
  have sup := Stl_sup v (by omega) hp
  by_cases hk : lo ≤ k ∧ k ≤ hi
  · by_cases k1 : k = lo
    · by_cases k2 : k = hi
      · rw [map_part hp (a := -30) (c := 30) (by omega) (by omega) (by omega) (fun j hj => by rw [hf j hj]; have := sup j hj; omega)]
        unfold Stl
        rw [if_pos (by omega), if_neg (by omega), if_neg (by omega), if_pos (by omega), if_neg (by omega), if_neg (by omega)]
      · rw [map_part hp (a := -30) (c := k + 1) (by omega) (by omega) (by omega) (fun j hj => by rw [hf j hj]; have := sup j hj; omega)]
        unfold Stl
        rw [if_pos (by omega), if_neg (by omega), if_pos (by omega), if_pos (by omega), if_neg (by omega), if_pos (by omega)]
    · by_cases k2 : k = hi
      · rw [map_part hp (a := k) (c := 30) (by omega) (by omega) (by omega) (fun j hj => by rw [hf j hj]; have := sup j hj; omega)]
        unfold Stl
        rw [if_neg (by omega), if_pos (by omega), if_neg (by omega), if_neg (by omega), if_neg (by omega), if_pos (by omega), if_neg (by omega), if_neg (by omega)]
      · rw [map_part hp (a := k) (c := k + 1) (by omega) (by omega) (by omega) (fun j hj => by rw [hf j hj]; have := sup j hj; omega)]
        unfold Stl
        rw [if_neg (by omega), if_pos (by omega), if_neg (by omega), if_pos (by omega), if_neg (by omega), if_pos (by omega), if_neg (by omega), if_pos (by omega)]
  · have z : smR 60 (fun j => if f j = k then pr w j else 0) = 0 := sum_zero_r fun x _ => by
      show (if f ((x : Int) - 30) = k then pr w ((x : Int) - 30) else 0) = 0
      by_cases hj : ((x : Int) - 30) ∈ w.map (·.1)
      · rw [if_neg fun e => ?_]
        rw [hf _ hj] at e
        omega
      · rw [pr_none hj]; split <;> rfl
    rw [z]
    unfold Stl
    by_cases k1 : k < lo
    · rw [if_pos (by omega), if_pos (by omega)]; grind
    · rw [if_neg (by omega), if_neg (by omega), if_neg (by omega), if_neg (by omega)]; grind
/-! ### choices -/
def ub (b : Rat) (z : Int) : Rat := b ^ (7 - z).toNat
theorem ub_pos {b : Rat} (h : 0 < b) (z : Int) : 0 < ub b z := pow_pos' h _
theorem ub_step {b : Rat} {y z : Int} (h : y ≤ z) (hz : z ≤ 7) : ub b z * b ^ (z - y).toNat = ub b y := by
  unfold ub
  rw [← pow_add', show (7 - z).toNat + (z - y).toNat = (7 - y).toNat by omega]
/-- the chances of an index, one and all -/
def sumN (m : Nat) (f : Nat → Rat) : Rat := ((List.range m).map f).sum
theorem sum_idx {w : Wt} {T : Nat} (s : Sp w T) {m : Nat} (hm : m ≤ 20) {f : Nat → Rat} (hp : ∀ k : Int, pr w k = if 0 ≤ k ∧ k < m then f k.toNat else 0) : sumN m f = 1 := by
  rw [← pr_sum s]
  have nd : (((List.range m).map fun x : Nat => ((x : Int), (fun k : Int => f k.toNat) x)).map (·.1)).Nodup := by
    rw [List.map_map]
    exact range_nd m
  have ks : ∀ k : Int, k ∈ ((List.range m).map fun x : Nat => ((x : Int), (fun k : Int => f k.toNat) x)).map (·.1) → -30 ≤ k ∧ k < 30 := fun k hk => by
    rw [List.map_map] at hk
    obtain ⟨x, hx, e⟩ := List.mem_map.mp hk
    have := List.mem_range.mp hx
    simp only [Function.comp] at e
    omega
  have h := tot_val nd ks
  have e1 : totS ((List.range m).map fun x : Nat => ((x : Int), (fun k : Int => f k.toNat) x)) = sumN m f := by
    unfold totS sumN
    rw [List.map_map]
    rfl
  rw [← e1, h]
  refine smR_congr fun k _ _ => ?_
  rw [val_rng (fun k : Int => f k.toNat) k m, hp]
theorem sumN_mul (m : Nat) (c : Rat) (f : Nat → Rat) : sumN m (fun x => c * f x) = c * sumN m f := sum_mul_r c f _
theorem sumN_succ (m : Nat) (f : Nat → Rat) : sumN (m + 1) f = f 0 + sumN m (fun x => f (x + 1)) := by
  unfold sumN
  rw [List.range_succ_eq_map, List.map_cons, List.sum_cons, List.map_map]
  rfl
/-- chances in the same proportions -/
theorem prop_same {m : Nat} {u v : Nat → Rat} {c e : Rat} (h1 : sumN m (fun x => c * u x) = 1) (h2 : sumN m (fun x => e * v x) = 1) {l : Rat} (hl : ∀ x, x < m → u x = l * v x) {x : Nat} (hx : x < m) : c * u x = e * v x := by
  have h3 : sumN m (fun x => c * u x) = sumN m (fun x => c * l * v x) := by
    unfold sumN
    congr 1
    refine List.map_congr_left fun y hy => ?_
    rw [hl y (List.mem_range.mp hy)]
    grind
  rw [h3, sumN_mul] at h1
  rw [sumN_mul] at h2
  rw [hl x hx]
  generalize sumN m v = V at *
  have hV : V ≠ 0 := fun z => by rw [z] at h2; grind
  have e3 : (c * l - e) * V = 0 := by grind
  have := Rat.mul_eq_zero.mp e3
  grind
theorem ub_prop {b : Rat} (h : 0 < b) (v : Int) {m : Nat} {g : Nat → Int} (hg : ∀ x, x < m → g x ≤ 7 ∧ g x + v ≤ 7) : ∃ l : Rat, ∀ x, x < m → ub b (g x + v) = l * ub b (g x) := by
  by_cases hv : 0 ≤ v
  · refine ⟨1 / b ^ v.toNat, fun x hx => ?_⟩
    have e := ub_step (b := b) (y := g x) (z := g x + v) (by omega) (hg x hx).2
    rw [show (g x + v - g x).toNat = v.toNat by omega] at e
    have hp := pow_pos' h v.toNat
    rw [← e]
    generalize b ^ v.toNat = y at *
    have : y ≠ 0 := by grind
    grind
  · refine ⟨b ^ (0 - v).toNat, fun x hx => ?_⟩
    have e := ub_step (b := b) (y := g x + v) (z := g x) (by omega) (hg x hx).1
    rw [show (g x - (g x + v)).toNat = (0 - v).toNat by omega] at e
    rw [← e]
    grind
end PL


set_option Elab.async false
set_option linter.all false
set_option maxRecDepth 100000
set_option exponentiation.threshold 20000
/-! Q4: k22's law, one turn. -/
namespace PL
open PySem
def basD : D := .list [.tuple [.int 1, .int 2], .tuple [.int 1, .int 3], .tuple [.int 2, .int 3], .tuple [.int 1, .int 4], .tuple [.int 3, .int 4], .tuple [.int 2, .int 5], .tuple [.int 1, .int 5]]
theorem bv {i : Nat} {d : D} {ρ : En} {f : En → Option Out} : (bindP (.v i) d ρ).bind f = f (ρ.set i (.fz d)) := rfl
theorem base_at {T : List D} {z : Int} (h0 : 0 ≤ z) (h6 : z < 7) : ∃ b, Bs b ∧ ixD T basD (.int z) = some (fr b) := by
  have h : z = 0 ∨ z = 1 ∨ z = 2 ∨ z = 3 ∨ z = 4 ∨ z = 5 ∨ z = 6 := by omega
  rcases h with e | e | e | e | e | e | e <;> subst e
  · exact ⟨mkRat 1 2, ⟨by decide +kernel, by decide +kernel, by decide +kernel⟩, by rfl⟩
  · exact ⟨mkRat 1 3, ⟨by decide +kernel, by decide +kernel, by decide +kernel⟩, by rfl⟩
  · exact ⟨mkRat 2 3, ⟨by decide +kernel, by decide +kernel, by decide +kernel⟩, by rfl⟩
  · exact ⟨mkRat 1 4, ⟨by decide +kernel, by decide +kernel, by decide +kernel⟩, by rfl⟩
  · exact ⟨mkRat 3 4, ⟨by decide +kernel, by decide +kernel, by decide +kernel⟩, by rfl⟩
  · exact ⟨mkRat 2 5, ⟨by decide +kernel, by decide +kernel, by decide +kernel⟩, by rfl⟩
  · exact ⟨mkRat 1 5, ⟨by decide +kernel, by decide +kernel, by decide +kernel⟩, by rfl⟩
theorem draw_at {T : List D} {ds : List Int} {i : Nat} (h : i < ds.length) : ∃ z : Int, ixD T (.list (ds.map PyData.int)) (.int (i : Int)) = some (.int z) := ⟨ds[i], atI_nat _ (by rw [List.getElem?_map, List.getElem?_eq_getElem h]; rfl)⟩
theorem ev_tuple_rng2 {G : Gb} {ρ : En} {own : List Nat} {e a c : Ex} {i : Nat} {lo hi : Int} {g : Nat → D} (h1 : -1000 ≤ lo) (h2 : lo ≤ 1000) (h3 : -1000 ≤ hi) (h4 : hi ≤ 1000) (ha : ev G a ρ = some (.int lo)) (hc : ev G c ρ = some (.int hi)) (h : ∀ x : Nat, x < (hi - lo).toNat → stepL own (.v i) (fun ρ1 => evC G .non ρ1) (fun ρ1 => ev G e ρ1) ρ (.int (lo + x)) = some (some (g x))) : ev G (.lc own e (.v i) (.rng2 a c) .non) ρ = some (.list ((List.range (hi - lo).toNat).map g)) := by
  have it : evI G (.rng2 a c) ρ = some ((List.range (hi - lo).toNat).map fun x : Nat => .int (lo + x)) := by
    have e : evI G (.rng2 a c) ρ = (asI (ev G a ρ)).bind fun x => (asI (ev G c ρ)).bind fun y => rngD x y := by simp only [evI]
    rw [e, ha, hc, asI_int, asI_int, Option.bind_some, Option.bind_some]
    unfold rngD
    rw [if_pos (by omega)]
  exact ev_lc it (compL_all (List.range (hi - lo).toNat) fun x hx => h x (List.mem_range.mp hx))
theorem max2 {T : List D} (a b : Int) : biD T .max [.int a, .int b] = some (.int (max a b)) := by
  have e : (if b > a then b else a) = max a b := by split <;> omega
  simp only [biD, e]
theorem min2 {T : List D} (a b : Int) : biD T .min [.int a, .int b] = some (.int (min a b)) := by
  have e : (if b < a then b else a) = min a b := by split <;> omega
  simp only [biD, e]
theorem mul_small {a b : Int} (h1 : a.natAbs < 2 ^ 10) (h2 : b.natAbs < 2 ^ 10) : opD .mul (.int a) (.int b) = some (.int (a * b)) := mul_ok h1 h2 (by decide) (by decide) (by decide)
theorem a_lpow {b : Rat} (h : Bs b) {n : Nat} (hn : n ≤ 20) : ap (Gk 1) "_law_power" [fr b, .int (n : Int)] = some (fr (b ^ n)) := by
  refine (at_ (n := "_law_power") rfl rfl ?_) 1 (by decide +kernel)
  obtain ⟨ρ', h1, t3, h2⟩ := forL_rng (P := fun j ρ => ∃ t3, ρ = [.fz (fr b), .fz (.int (n : Int)), .fz (fr (b ^ j)), t3]) (fun j : Nat => PyData.int (j : Int)) n _ ⟨.un, rfl⟩ (step := fun d ρ1 => (bindP (.v 3) d ρ1).bind fun ρ2 => evSs (Gk (pl "_law_power" + 1)) (.cons (.asg (.v 2) (.call "_law_times" (.cons (.v 2) (.cons (.v 0) .nil)))) .nil) ρ2) (by
    rintro j ρ hj ⟨t3, rfl⟩
    have c := a_ltimes (r := b ^ j) (s := b) ((h.pw (by omega)).mono (by decide)) (h.s3.mono (by decide)) _ (show pl "_law_power" + 1 ≤ pl "_law_times" by decide +kernel)
    rw [← Rat.pow_succ] at c
    refine ⟨_, ?_, .fz (.int (j : Int)), rfl⟩
    show evSs (Gk (pl "_law_power" + 1)) _ [.fz (fr b), .fz (.int (n : Int)), .fz (fr (b ^ j)), .fz (.int (j : Int))] = _
    rw [evSs_nx (ev_asg (ev_call2 (ev_vv rfl) (ev_vv rfl) c))]
    rfl)
  subst h2
  refine run_of (ρ := [.fz (fr b), .fz (.int (n : Int)), .un, .un]) rfl rfl ?_
  unfold K22.f__law_power K22.b__law_power
  rw [evSs_nx (ρ' := [.fz (fr b), .fz (.int (n : Int)), .fz (fr (b ^ 0)), .un]) (by
    rw [Rat.pow_zero]
    exact ev_asg (ev_tup2 ev_ii ev_ii))]
  have it : evI (Gk (pl "_law_power" + 1)) (.rng1 (.v 1)) [.fz (fr b), .fz (.int (n : Int)), .fz (fr (b ^ 0)), .un] = some ((List.range n).map fun (j : Nat) => .int (j : Int)) := ev_rng (by rw [xv]; rfl) (by omega)
  rw [evSs_nx (evS_for it h1)]
  exact ev_retS (ev_vv rfl)
theorem notab {x y : Rat} (hx : Se x) (hy : Se y) (h : x ≤ y) : ap (Gk 1) "_law_is_above" [fr x, fr y] = some (.bool false) := by
  have := a_labove hx hy 1 (by decide +kernel)
  rw [decide_eq_false (by grind)] at this
  exact this
theorem sc_at {T : List D} {m : Nat} {g : Nat → Int} {x : Nat} (h : x < m) : ixD T (.tuple ((scL m g).map PyData.int)) (.int (x : Int)) = some (.int (g x)) := by
  show L2.atI ((scL m g).map PyData.int) (x : Int) = _
  exact atI_nat _ (by simp [scL, h])
theorem rev_range (m : Nat) : ((List.range m).map fun x : Nat => PyData.int (x : Int)).reverse = (List.range m).map fun x : Nat => PyData.int ((m : Int) - 1 - x) := by
  refine List.ext_getElem (by simp) fun i h1 h2 => ?_
  simp at h1
  simp
  omega
theorem any_false {T : List D} : ∀ l : List D, (∀ d ∈ l, d = .bool false) → biD T .any [.list l] = some (.bool false) := by
  have key : ∀ l : List D, (∀ d ∈ l, d = .bool false) → ∃ bs, allBools l = some bs ∧ bs.any id = false := by
    intro l
    induction l with
    | nil => intro _; exact ⟨[], rfl, rfl⟩
    | cons d r ih =>
      intro h
      obtain ⟨bs, h1, h2⟩ := ih fun x hx => h x (List.mem_cons_of_mem _ hx)
      have e := h d List.mem_cons_self
      subst e
      exact ⟨false :: bs, by simp [allBools, h1], by simpa using h2⟩
  intro l h
  obtain ⟨bs, h1, h2⟩ := key l h
  simp only [biD, h1, Option.map_some, h2]

def T22_1 : St := (.asg (.v 4) (.ix (.v 2) (.op .mod (.bi .int (.cons (.ix (.v 1) (.v 3)) .nil)) (.int 7))))
def T22_2 : St := (.asg (.v 5) (.op .sub (.op .mod (.bi .int (.cons (.ix (.v 1) (.op .add (.int 10) (.v 3))) .nil)) (.int 9)) (.int 4)))
def T22_3 : St := (.asg (.v 6) (.op .add (.v 5) (.op .mod (.bi .int (.cons (.ix (.v 1) (.op .add (.int 20) (.v 3))) .nil)) (.int 6))))
def T22_4 : St := (.asg (.cons (.v 7) (.cons (.v 8) .nil)) (.tup (.cons (.op .sub (.op .mod (.bi .int (.cons (.ix (.v 1) (.op .add (.int 30) (.v 3))) .nil)) (.int 15)) (.int 7)) (.cons (.op .sub (.op .mod (.bi .int (.cons (.ix (.v 1) (.op .add (.int 40) (.v 3))) .nil)) (.int 9)) (.int 4)) .nil))))
def T22_5 : St := (.asg (.v 9) (.call "two_sided" (.cons (.v 7) (.cons (.v 4) (.cons (.v 5) (.cons (.v 6) .nil))))))
def T22_6 : St := (.ife (.cmp .ne (.call "two_sided" (.cons (.op .add (.v 7) (.v 8)) (.cons (.v 4) (.cons (.op .add (.v 5) (.v 8)) (.cons (.op .add (.v 6) (.v 8)) .nil))))) (.call "mapped" (.cons (.v 9) (.cons (.bi .tuple (.cons (.lc [15] (.tup (.cons (.v 15) (.cons (.op .add (.v 15) (.v 8)) .nil))) (.v 15) (.rng2 (.v 5) (.op .add (.v 6) (.int 1))) .non) .nil)) .nil)))) (.cons (.ret (.bl false)) .nil) .nil)
def T22_7 : St := (.ife (.cmp .ne (.call "two_sided" (.cons (.op .sub (.int 0) (.v 7)) (.cons (.v 4) (.cons (.op .sub (.int 0) (.v 6)) (.cons (.op .sub (.int 0) (.v 5)) .nil))))) (.call "mapped" (.cons (.v 9) (.cons (.bi .tuple (.cons (.lc [15] (.tup (.cons (.v 15) (.cons (.op .sub (.int 0) (.v 15)) .nil))) (.v 15) (.rng2 (.v 5) (.op .add (.v 6) (.int 1))) .non) .nil)) .nil)))) (.cons (.ret (.bl false)) .nil) .nil)
def T22_8 : St := (.asg (.v 10) (.op .mod (.bi .int (.cons (.ix (.v 1) (.op .add (.int 50) (.v 3))) .nil)) (.int 4)))
def T22_9 : St := (.asg (.v 11) (.call "two_sided" (.cons (.v 7) (.cons (.v 4) (.cons (.op .sub (.v 5) (.v 10)) (.cons (.op .add (.v 6) (.op .mul (.int 2) (.v 10))) .nil))))))
def T22_10 : St := (.ife (.cmp .ne (.call "mapped" (.cons (.v 11) (.cons (.bi .tuple (.cons (.lc [15] (.tup (.cons (.v 15) (.cons (.bi .max (.cons (.v 5) (.cons (.bi .min (.cons (.v 6) (.cons (.v 15) .nil))) .nil))) .nil))) (.v 15) (.rng2 (.op .sub (.v 5) (.v 10)) (.op .add (.op .add (.v 6) (.op .mul (.int 2) (.v 10))) (.int 1))) .non) .nil)) .nil))) (.v 9)) (.cons (.ret (.bl false)) .nil) .nil)
def T22_11 : St := (.par3 12 13 14 (.ex (.call "two_sided" (.cons (.op .add (.op .add (.v 7) (.int 1)) (.v 10)) (.cons (.v 4) (.cons (.v 5) (.cons (.v 6) .nil)))))) (.ex (.tup (.cons (.int 0) (.cons (.int 1) .nil)))) (.ex (.tup (.cons (.int 0) (.cons (.int 1) .nil)))))
def T22_12 : St := (.for_ (.v 15) (.rng3 (.v 6) (.op .sub (.v 5) (.int 1)) (.neg (.int 1))) (.cons (.par 13 14 (.ex (.call "_law_plus" (.cons (.v 13) (.cons (.call "chance_of" (.cons (.v 9) (.cons (.v 15) .nil))) .nil)))) (.ex (.call "_law_plus" (.cons (.v 14) (.cons (.call "chance_of" (.cons (.v 12) (.cons (.v 15) .nil))) .nil))))) (.cons (.ife (.call "_law_is_above" (.cons (.v 13) (.cons (.v 14) .nil))) (.cons (.ret (.bl false)) .nil) .nil) .nil)))
def T22_13 : St := (.asg (.v 16) (.bi .tuple (.cons (.lc [15] (.op .sub (.op .mod (.bi .int (.cons (.ix (.v 1) (.op .add (.op .add (.int 60) (.op .mul (.int 6) (.v 3))) (.v 15))) .nil)) (.int 7)) (.int 3)) (.v 15) (.rng1 (.op .add (.int 2) (.op .mod (.bi .int (.cons (.ix (.v 1) (.op .add (.int 100) (.v 3))) .nil)) (.int 4)))) .non) .nil)))
def T22_14 : St := (.asg (.cons (.v 17) (.cons (.v 18) .nil)) (.tup (.cons (.call "choice" (.cons (.v 16) (.cons (.v 4) .nil))) (.cons (.bi .len (.cons (.v 16) .nil)) .nil))))
def T22_15 : St := (.asg (.v 19) (.rev (.lrng (.v 18))))
def T22_16 : St := (.ife (.cmp .ne (.call "choice" (.cons (.bi .tuple (.cons (.lc [15] (.ix (.v 16) (.v 15)) (.v 15) (.seq (.v 19)) .non) .nil)) (.cons (.v 4) .nil))) (.call "mapped" (.cons (.v 17) (.cons (.bi .tuple (.cons (.lc [15] (.tup (.cons (.ix (.v 19) (.v 15)) (.cons (.v 15) .nil))) (.v 15) (.rng1 (.v 18)) .non) .nil)) .nil)))) (.cons (.ret (.bl false)) .nil) .nil)
def T22_17 : St := (.for_ (.v 20) (.rng1 (.v 18)) (.cons (.for_ (.v 15) (.rng1 (.v 18)) (.cons (.ife (.and_ (.cmp .ge (.ix (.v 16) (.v 20)) (.ix (.v 16) (.v 15))) (.cmp .ne (.call "_law_times" (.cons (.call "chance_of" (.cons (.v 17) (.cons (.v 20) .nil))) (.cons (.call "_law_power" (.cons (.v 4) (.cons (.op .sub (.ix (.v 16) (.v 20)) (.ix (.v 16) (.v 15))) .nil))) .nil))) (.call "chance_of" (.cons (.v 17) (.cons (.v 15) .nil))))) (.cons (.ret (.bl false)) .nil) .nil) .nil)) .nil))
def T22_18 : St := (.ife (.cmp .gt (.v 18) (.int 2)) (.cons (.asg (.v 21) (.call "choice" (.cons (.sl (.v 16) (.some (.int 1)) .non) (.cons (.v 4) .nil)))) (.cons (.asg (.v 22) (.call "_law_minus" (.cons (.tup (.cons (.int 1) (.cons (.int 1) .nil))) (.cons (.call "chance_of" (.cons (.v 17) (.cons (.int 0) .nil))) .nil)))) (.cons (.ife (.bi .any (.cons (.lc [15] (.cmp .ne (.call "_law_times" (.cons (.v 22) (.cons (.call "chance_of" (.cons (.v 21) (.cons (.v 15) .nil))) .nil))) (.call "chance_of" (.cons (.v 17) (.cons (.op .add (.v 15) (.int 1)) .nil)))) (.v 15) (.rng1 (.op .sub (.v 18) (.int 1))) .non) .nil)) (.cons (.ret (.bl false)) .nil) .nil) .nil))) .nil)
def T22_19 : St := (.ife (.cmp .ne (.call "choice" (.cons (.bi .tuple (.cons (.lc [23] (.op .add (.v 23) (.v 8)) (.v 23) (.seq (.v 16)) .non) .nil)) (.cons (.v 4) .nil))) (.v 17)) (.cons (.ret (.bl false)) .nil) .nil)
def T22_body : Ss := (.cons T22_1 (.cons T22_2 (.cons T22_3 (.cons T22_4 (.cons T22_5 (.cons T22_6 (.cons T22_7 (.cons T22_8 (.cons T22_9 (.cons T22_10 (.cons T22_11 (.cons T22_12 (.cons T22_13 (.cons T22_14 (.cons T22_15 (.cons T22_16 (.cons T22_17 (.cons T22_18 (.cons T22_19 .nil)))))))))))))))))))
theorem T22_law : K22.b_law = (.cons (.asg (.v 1) (.call "_law_draws" (.cons (.v 0) (.cons (.int 300) .nil)))) (.cons (.asg (.v 2) (.lst (.cons (.tup (.cons (.int 1) (.cons (.int 2) .nil))) (.cons (.tup (.cons (.int 1) (.cons (.int 3) .nil))) (.cons (.tup (.cons (.int 2) (.cons (.int 3) .nil))) (.cons (.tup (.cons (.int 1) (.cons (.int 4) .nil))) (.cons (.tup (.cons (.int 3) (.cons (.int 4) .nil))) (.cons (.tup (.cons (.int 2) (.cons (.int 5) .nil))) (.cons (.tup (.cons (.int 1) (.cons (.int 5) .nil))) .nil))))))))) (.cons (.for_ (.v 3) (.rng1 (.int 6)) T22_body) (.cons (.ret (.bl true)) .nil)))) := rfl

theorem k22_turn (scr : D) (ds : List Int) (hd : ds.length = 300) (t : Nat) (ht : t < 6) (y4 y5 y6 y7 y8 y9 y10 y11 y12 y13 y14 y15 y16 y17 y18 y19 y20 y21 y22 y23 : Sl) : ∃ z4 z5 z6 z7 z8 z9 z10 z11 z12 z13 z14 z15 z16 z17 z18 z19 z20 z21 z22 z23, evSs (Gk 1) T22_body [.fz scr, .fz (.list (ds.map PyData.int)), .fz basD, .fz (.int (t : Int)), y4, y5, y6, y7, y8, y9, y10, y11, y12, y13, y14, y15, y16, y17, y18, y19, y20, y21, y22, y23] = some (.nx [.fz scr, .fz (.list (ds.map PyData.int)), .fz basD, .fz (.int (t : Int)), z4, z5, z6, z7, z8, z9, z10, z11, z12, z13, z14, z15, z16, z17, z18, z19, z20, z21, z22, z23]) := by
  have dr : ∀ n : Nat, n < 300 - t → ∃ a : Int, ixD (Gk 1).tups (.list (ds.map PyData.int)) (.int ((n : Int) + (t : Int))) = some (.int a) := fun n hn => by
    obtain ⟨a, ha⟩ := draw_at (T := (Gk 1).tups) (ds := ds) (i := n + t) (by omega)
    rw [Int.natCast_add] at ha
    exact ⟨a, ha⟩
  obtain ⟨a0, ha0⟩ := draw_at (T := (Gk 1).tups) (ds := ds) (i := t) (by omega)
  obtain ⟨a1, ha1⟩ := dr 10 (by omega)
  obtain ⟨a2, ha2⟩ := dr 20 (by omega)
  obtain ⟨a3, ha3⟩ := dr 30 (by omega)
  obtain ⟨a4, ha4⟩ := dr 40 (by omega)
  obtain ⟨a5, ha5⟩ := dr 50 (by omega)
  obtain ⟨a6, ha6⟩ := dr 100 (by omega)
  have ha1 : ixD (Gk 1).tups (.list (ds.map PyData.int)) (.int (10 + (t : Int))) = some (.int a1) := ha1
  have ha2 : ixD (Gk 1).tups (.list (ds.map PyData.int)) (.int (20 + (t : Int))) = some (.int a2) := ha2
  have ha3 : ixD (Gk 1).tups (.list (ds.map PyData.int)) (.int (30 + (t : Int))) = some (.int a3) := ha3
  have ha4 : ixD (Gk 1).tups (.list (ds.map PyData.int)) (.int (40 + (t : Int))) = some (.int a4) := ha4
  have ha5 : ixD (Gk 1).tups (.list (ds.map PyData.int)) (.int (50 + (t : Int))) = some (.int a5) := ha5
  have ha6 : ixD (Gk 1).tups (.list (ds.map PyData.int)) (.int (100 + (t : Int))) = some (.int a6) := ha6
  obtain ⟨b, B, hb⟩ := base_at (T := (Gk 1).tups) (z := a0 % 7) (by omega) (by omega)
  generalize hlo : a1 % 9 - 4 = lo
  generalize hhi : lo + a2 % 6 = hi
  generalize hs : a3 % 15 - 7 = s
  generalize hmv : a4 % 9 - 4 = mv
  generalize hwd : a5 % 4 = wd
  have l1 : -4 ≤ lo ∧ lo ≤ 4 := by omega
  have h1 : lo ≤ hi ∧ hi ≤ lo + 5 := by omega
  have s1 : -7 ≤ s ∧ s ≤ 7 := by omega
  have m1 : -4 ≤ mv ∧ mv ≤ 4 := by omega
  have w1 : 0 ≤ wd ∧ wd ≤ 3 := by omega
  have Mp := Mb_pos b
  have Ml := Mb_lt B
  -- the noises
  obtain ⟨w, sw, pw, rw_⟩ := a_two B (s := s) (lo := lo) (hi := hi) (by omega) (by omega) (by omega) (by omega) (by omega) (by omega) (by omega) (by omega)
  obtain ⟨wv, sv, pv, rv⟩ := a_two B (s := s + mv) (lo := lo + mv) (hi := hi + mv) (by omega) (by omega) (by omega) (by omega) (by omega) (by omega) (by omega) (by omega)
  obtain ⟨wf, sf, pf, rf⟩ := a_two B (s := 0 - s) (lo := 0 - hi) (hi := 0 - lo) (by omega) (by omega) (by omega) (by omega) (by omega) (by omega) (by omega) (by omega)
  obtain ⟨wW, sW, pW, rW⟩ := a_two B (s := s) (lo := lo - wd) (hi := hi + 2 * wd) (by omega) (by omega) (by omega) (by omega) (by omega) (by omega) (by omega) (by omega)
  obtain ⟨wM, sM, pM, rM⟩ := a_two B (s := s + 1 + wd) (lo := lo) (hi := hi) (by omega) (by omega) (by omega) (by omega) (by omega) (by omega) (by omega) (by omega)
  have sup := Stl_sup sw.vs (show lo ≤ hi by omega) pw
  have supW := Stl_sup sW.vs (show lo - wd ≤ hi + 2 * wd by omega) pW
  obtain ⟨x1, sx1, px1, rx1, vx1⟩ := map_by Mp Ml sw (lo := lo) (n := (hi + 1 - lo).toNat) (fun j => j + mv) (by omega) (fun j hj => by have := sup j hj; omega) (fun j _ _ => by omega)
  obtain ⟨x2, sx2, px2, rx2, vx2⟩ := map_by Mp Ml sw (lo := lo) (n := (hi + 1 - lo).toNat) (fun j => 0 - j) (by omega) (fun j hj => by have := sup j hj; omega) (fun j _ _ => by omega)
  obtain ⟨x3, sx3, px3, rx3, vx3⟩ := map_by Mp Ml sW (lo := lo - wd) (n := (hi + 2 * wd + 1 - (lo - wd)).toNat) (fun j => max lo (min hi j)) (by omega) (fun j hj => by have := supW j hj; omega) (fun j _ _ => by omega)
  have q1 : wv = x1 := sv.vs.ext sx1.vs fun k => by
    rw [pv, px1, map_one sw (c := k - mv) (fun j hj => by rw [vx1 j hj]; omega), pw, Stl_move, Stl_move, show k + 1 - mv = k - mv + 1 by omega]
  have q2 : wf = x2 := sf.vs.ext sx2.vs fun k => by
    rw [pf, px2, map_one sw (c := 0 - k) (fun j hj => by rw [vx2 j hj]; omega), pw, Stl_flip b (by omega), Stl_flip b (by omega), show 1 - k = 0 - k + 1 by omega, show 1 - (k + 1) = 0 - k by omega]
    grind
  have q3 : x3 = w := sx3.vs.ext sw.vs fun k => by
    rw [px3, pw, Stl_clamp (b := b) (s := s) (lo := lo) (hi := hi) (by omega) (by omega) (by omega) (by omega) (by omega) sW.vs pW vx3]
  have n1 := sp_ne (T := (Gk 1).tups) q1
  have n2 := sp_ne (T := (Gk 1).tups) q2
  have n3 := sp_ne (T := (Gk 1).tups) q3
  -- the scores
  obtain ⟨m, hm⟩ : ∃ m : Nat, (m : Int) = 2 + a6 % 4 := ⟨(2 + a6 % 4).toNat, by omega⟩
  have m2 : 2 ≤ m := by omega
  have m5 : m ≤ 5 := by omega
  obtain ⟨g, hg⟩ : ∃ g : Nat → Int, ∀ x : Nat, x < m → ∃ z : Int, ixD (Gk 1).tups (.list (ds.map PyData.int)) (.int (60 + 6 * (t : Int) + x)) = some (.int z) ∧ g x = z % 7 - 3 := by
    classical
    have hx : ∀ x : Nat, x < m → ∃ z : Int, ixD (Gk 1).tups (.list (ds.map PyData.int)) (.int (60 + 6 * (t : Int) + x)) = some (.int z) := fun x hx => by
      obtain ⟨z, hz⟩ := draw_at (T := (Gk 1).tups) (ds := ds) (i := 60 + 6 * t + x) (by omega)
      push_cast at hz
      exact ⟨z, hz⟩
    refine ⟨fun x => if h : x < m then (hx x h).choose % 7 - 3 else 0, fun x h => ⟨_, (hx x h).choose_spec, ?_⟩⟩
    simp only [dif_pos h]
  have gb : ∀ x, x < m → -3 ≤ g x ∧ g x ≤ 3 := fun x hx => by
    obtain ⟨z, _, e⟩ := hg x hx
    omega
  obtain ⟨wc, Tc, cc, T0, T1, sc, pc, rc⟩ := a_choice B (m := m) (by omega) m5 (g := g) (fun x hx => by have := gb x hx; omega)
  obtain ⟨wr, Tr, cr, _, _, sr, pr_, rr⟩ := a_choice B (m := m) (by omega) m5 (g := fun x => g (m - 1 - x)) (fun x hx => by have := gb (m - 1 - x) (by omega); omega)
  obtain ⟨wl, Tl', cl, L0, L1, sl, pl_, rl⟩ := a_choice B (m := m - 1) (by omega) (by omega) (g := fun x => g (x + 1)) (fun x hx => by have := gb (x + 1) (by omega); omega)
  obtain ⟨wk_, Tk, ck, _, _, sk_, pk_, rk⟩ := a_choice B (m := m) (by omega) m5 (g := fun x => g x + mv) (fun x hx => by have := gb x hx; omega)
  have uc := sum_idx sc (m := m) (by omega) (f := fun x => cc * ub b (g x)) pc
  have ur := sum_idx sr (m := m) (by omega) (f := fun x => cr * ub b (g (m - 1 - x))) pr_
  have ul := sum_idx sl (m := m - 1) (by omega) (f := fun x => cl * ub b (g (x + 1))) (by
    intro k
    rw [pl_]
    rfl)
  have uk := sum_idx sk_ (m := m) (by omega) (f := fun x => ck * ub b (g x + mv)) pk_
  have qk : wk_ = wc := sk_.vs.ext sc.vs fun k => by
    rw [pk_, pc]
    by_cases hk : 0 ≤ k ∧ k < m
    · rw [if_pos hk, if_pos hk]
      obtain ⟨l, hl⟩ := ub_prop B.pos mv (m := m) (g := g) (fun x hx => by have := gb x hx; omega)
      exact prop_same uk uc hl (x := k.toNat) (by omega)
    · rw [if_neg hk, if_neg hk]
  have n19 := sp_ne (T := (Gk 1).tups) qk
  -- reversed
  obtain ⟨prs, hprs⟩ : ∃ prs : Wt, prs = (List.range m).map fun x : Nat => ((m : Int) - 1 - x, (x : Int)) := ⟨_, rfl⟩
  have kprs : prs.map (·.1) = (List.range m).map fun x : Nat => (m : Int) - 1 - x := by rw [hprs, List.map_map]; rfl
  have ndp : (prs.map (·.1)).Nodup := by
    rw [kprs, List.Nodup, List.pairwise_map]
    exact List.nodup_range.imp fun h e => h (by omega)
  have mprs : ∀ j : Int, 0 ≤ j → j < m → (j, (m : Int) - 1 - j) ∈ prs := fun j j0 j1 => by
    rw [hprs]
    refine List.mem_map.mpr ⟨((m : Int) - 1 - j).toNat, List.mem_range.mpr (by omega), ?_⟩
    rw [show (((((m : Int) - 1 - j).toNat : Nat)) : Int) = (m : Int) - 1 - j by omega, show (m : Int) - 1 - ((m : Int) - 1 - j) = j by omega]
  have supc : ∀ j : Int, j ∈ wc.map (·.1) → 0 ≤ j ∧ j < m := fun j hj => by
    have h := pr_pos sc.vs hj
    rw [pc] at h
    refine Decidable.byContradiction fun hn => ?_
    rw [if_neg hn] at h
    exact absurd h (by decide)
  obtain ⟨xr, sxr, pxr, rxr⟩ := a_mapped (Nat.lt_of_lt_of_le T0 (Nat.le_refl _)) (by omega) sc (pairs := prs) (by
    intro e
    rw [e] at hprs
    have := congrArg List.length hprs
    simp at this
    omega) ndp (fun q hq => by
    rw [hprs] at hq
    obtain ⟨x, hx, e⟩ := List.mem_map.mp hq
    have hx := List.mem_range.mp hx
    subst e
    simp only
    omega) (fun q hq => by
    have h := supc q.1 (List.mem_map_of_mem hq)
    have h2 := mprs q.1 h.1 h.2
    have h3 := List.mem_map_of_mem (f := Prod.fst) h2
    exact h3)
  have rxr := rxr 1 (by decide +kernel)
  have vprs : ∀ j : Int, j ∈ wc.map (·.1) → valW prs j = (m : Int) - 1 - j := fun j hj => by
    have h := supc j hj
    unfold valW
    rw [(lookup_mem_iff ndp).mpr (mprs j h.1 h.2)]
    rfl
  have pxr2 : ∀ k : Int, pr xr k = if 0 ≤ k ∧ k < m then cc * ub b (g (m - 1 - k.toNat)) else 0 := fun k => by
    rw [pxr, map_one sc (c := (m : Int) - 1 - k) (fun j hj => by rw [vprs j hj]; omega), pc]
    by_cases hk : 0 ≤ k ∧ k < m
    · have hk2 : 0 ≤ (m : Int) - 1 - k ∧ (m : Int) - 1 - k < m := by omega
      rw [if_pos hk, if_pos hk2, show ((m : Int) - 1 - k).toNat = m - 1 - k.toNat by omega]
      rfl
    · have hk2 : ¬ (0 ≤ (m : Int) - 1 - k ∧ (m : Int) - 1 - k < m) := by omega
      rw [if_neg hk, if_neg hk2]
  have ux := sum_idx sxr (m := m) (by omega) (f := fun x => cc * ub b (g (m - 1 - x))) pxr2
  have qr : wr = xr := sr.vs.ext sxr.vs fun k => by
    rw [pr_, pxr2]
    by_cases hk : 0 ≤ k ∧ k < m
    · rw [if_pos hk, if_pos hk]
      exact prop_same ur ux (l := 1) (fun x _ => by grind) (x := k.toNat) (by omega)
    · rw [if_neg hk, if_neg hk]
  have n16 := sp_ne (T := (Gk 1).tups) qr
  -- sizes
  have sePw : ∀ j, Se (pr w j) := fun j => (pr_bd sw j).se Mp Ml (by decide)
  have sePM : ∀ j, Se (pr wM j) := fun j => (pr_bd sM j).se Mp Ml (by decide)
  have seS : ∀ k, Se (Stl b s lo hi k) := fun k => by
    have h := Stl_bd B s lo hi k
    exact (⟨h.1, by simpa using h.2, Stl_dvd B (by omega) (by omega)⟩ : Bd (Mb b) 1 _).se Mp Ml (by decide)
  have seT : ∀ k, Se (Stl b (s + 1 + wd) lo hi k) := fun k => by
    have h := Stl_bd B (s + 1 + wd) lo hi k
    exact (⟨h.1, by simpa using h.2, Stl_dvd B (by omega) (by omega)⟩ : Bd (Mb b) 1 _).se Mp Ml (by decide)
  have sePc : ∀ j, Se (pr wc j) := fun j => (pr_bd sc j).se T0 (by omega) (by decide)
  have sePl : ∀ j, Se (pr wl j) := fun j => (pr_bd sl j).se L0 (by omega) (by decide)
  have chw := fun j : Int => a_chance Mp Ml sw j 1 (by decide +kernel)
  have chM := fun j : Int => a_chance Mp Ml sM j 1 (by decide +kernel)
  have chc := fun j : Int => a_chance T0 (by omega) sc j 1 (by decide +kernel)
  have chl := fun j : Int => a_chance L0 (by omega) sl j 1 (by decide +kernel)
  unfold T22_body
  rw [evSs_nx (ρ' := [.fz scr, .fz (.list (ds.map PyData.int)), .fz basD, .fz (.int (t : Int)), .fz (fr b), y5, y6, y7, y8, y9, y10, y11, y12, y13, y14, y15, y16, y17, y18, y19, y20, y21, y22, y23]) (by unfold T22_1; exact ev_asg (ev_ixx (ev_vv rfl) (ev_opp (ev_bi1 (ev_ixx (ev_vv rfl) (ev_vv rfl) ha0) (int_int _)) ev_ii (mod_i (by decide))) hb))]
  rw [evSs_nx (ρ' := [.fz scr, .fz (.list (ds.map PyData.int)), .fz basD, .fz (.int (t : Int)), .fz (fr b), .fz (.int lo), y6, y7, y8, y9, y10, y11, y12, y13, y14, y15, y16, y17, y18, y19, y20, y21, y22, y23]) (by unfold T22_2; exact ev_asg ((ev_opp (ev_opp (ev_bi1 (ev_ixx (ev_vv rfl) (ev_opp ev_ii (ev_vv rfl) (add_i _ _)) ha1) (int_int _)) ev_ii (mod_i (by decide))) ev_ii (sub_i _ _)).trans (by rw [hlo])))]
  rw [evSs_nx (ρ' := [.fz scr, .fz (.list (ds.map PyData.int)), .fz basD, .fz (.int (t : Int)), .fz (fr b), .fz (.int lo), .fz (.int hi), y7, y8, y9, y10, y11, y12, y13, y14, y15, y16, y17, y18, y19, y20, y21, y22, y23]) (by unfold T22_3; exact ev_asg ((ev_opp (ev_vv rfl) (ev_opp (ev_bi1 (ev_ixx (ev_vv rfl) (ev_opp ev_ii (ev_vv rfl) (add_i _ _)) ha2) (int_int _)) ev_ii (mod_i (by decide))) (add_i _ _)).trans (by rw [hhi])))]
  have e4 : ev (Gk 1) (.tup (.cons (.op .sub (.op .mod (.bi .int (.cons (.ix (.v 1) (.op .add (.int 30) (.v 3))) .nil)) (.int 15)) (.int 7)) (.cons (.op .sub (.op .mod (.bi .int (.cons (.ix (.v 1) (.op .add (.int 40) (.v 3))) .nil)) (.int 9)) (.int 4)) .nil))) [.fz scr, .fz (.list (ds.map PyData.int)), .fz basD, .fz (.int (t : Int)), .fz (fr b), .fz (.int lo), .fz (.int hi), y7, y8, y9, y10, y11, y12, y13, y14, y15, y16, y17, y18, y19, y20, y21, y22, y23] = some (.tuple [.int s, .int mv]) := ev_tup2 ((ev_opp (ev_opp (ev_bi1 (ev_ixx (ev_vv rfl) (ev_opp ev_ii (ev_vv rfl) (add_i _ _)) ha3) (int_int _)) ev_ii (mod_i (by decide))) ev_ii (sub_i _ _)).trans (by rw [hs])) ((ev_opp (ev_opp (ev_bi1 (ev_ixx (ev_vv rfl) (ev_opp ev_ii (ev_vv rfl) (add_i _ _)) ha4) (int_int _)) ev_ii (mod_i (by decide))) ev_ii (sub_i _ _)).trans (by rw [hmv]))
  rw [evSs_nx (ρ' := [.fz scr, .fz (.list (ds.map PyData.int)), .fz basD, .fz (.int (t : Int)), .fz (fr b), .fz (.int lo), .fz (.int hi), .fz (.int s), .fz (.int mv), y9, y10, y11, y12, y13, y14, y15, y16, y17, y18, y19, y20, y21, y22, y23]) (by unfold T22_4; simp only [evS, e4, Option.bind_some]; rfl)]
  rw [evSs_nx (ρ' := [.fz scr, .fz (.list (ds.map PyData.int)), .fz basD, .fz (.int (t : Int)), .fz (fr b), .fz (.int lo), .fz (.int hi), .fz (.int s), .fz (.int mv), .fz (spD w), y10, y11, y12, y13, y14, y15, y16, y17, y18, y19, y20, y21, y22, y23]) (by unfold T22_5; exact ev_asg (ev_call4 (ev_vv rfl) (ev_vv rfl) (ev_vv rfl) (ev_vv rfl) rw_))]
  have tl : ∀ l : List D, biD (Gk 1).tups .tuple [.list l] = some (.tuple l) := fun _ => rfl
  have e6 : ev (Gk 1) (.lc [15] (.tup (.cons (.v 15) (.cons (.op .add (.v 15) (.v 8)) .nil))) (.v 15) (.rng2 (.v 5) (.op .add (.v 6) (.int 1))) .non) [.fz scr, .fz (.list (ds.map PyData.int)), .fz basD, .fz (.int (t : Int)), .fz (fr b), .fz (.int lo), .fz (.int hi), .fz (.int s), .fz (.int mv), .fz (spD w), y10, y11, y12, y13, y14, y15, y16, y17, y18, y19, y20, y21, y22, y23] = some (.list ((prO lo (hi + 1 - lo).toNat fun j => j + mv).map prD)) := by
    unfold prO
    rw [List.map_map]
    refine ev_tuple_rng2 (by omega) (by omega) (by omega) (by omega) (ev_vv rfl) (ev_opp (ev_vv rfl) ev_ii (add_i _ _)) fun x hx => ?_
    unfold stepL
    simp only [Function.comp, prD]
    simp [-List.map_map, xcall, xv, xnon, xbl, xint, xstr, xg, xop, xcmp, xchain, xisN, xnotN, xand, xor, xnot, xite, xbi, xisi, xtup, xlst, xix, xsl, xrev, xget, xlvals, xoget, xolen, evs, evO, evC, evS, evSs, evR, bindP, unpD, freeze, wipeE, En.get, En.own, asB, asI, isNo, add_i]
  rw [evSs_nx (ρ' := [.fz scr, .fz (.list (ds.map PyData.int)), .fz basD, .fz (.int (t : Int)), .fz (fr b), .fz (.int lo), .fz (.int hi), .fz (.int s), .fz (.int mv), .fz (spD w), y10, y11, y12, y13, y14, y15, y16, y17, y18, y19, y20, y21, y22, y23]) (by unfold T22_6; exact ife_nil (ev_cmp (ev_call4 (ev_opp (ev_vv rfl) (ev_vv rfl) (add_i _ _)) (ev_vv rfl) (ev_opp (ev_vv rfl) (ev_vv rfl) (add_i _ _)) (ev_opp (ev_vv rfl) (ev_vv rfl) (add_i _ _)) rv) (ev_call2 (ev_vv rfl) (ev_tup_of e6) rx1) n1))]
  have e7 : ev (Gk 1) (.lc [15] (.tup (.cons (.v 15) (.cons (.op .sub (.int 0) (.v 15)) .nil))) (.v 15) (.rng2 (.v 5) (.op .add (.v 6) (.int 1))) .non) [.fz scr, .fz (.list (ds.map PyData.int)), .fz basD, .fz (.int (t : Int)), .fz (fr b), .fz (.int lo), .fz (.int hi), .fz (.int s), .fz (.int mv), .fz (spD w), y10, y11, y12, y13, y14, y15, y16, y17, y18, y19, y20, y21, y22, y23] = some (.list ((prO lo (hi + 1 - lo).toNat fun j => 0 - j).map prD)) := by
    unfold prO
    rw [List.map_map]
    refine ev_tuple_rng2 (by omega) (by omega) (by omega) (by omega) (ev_vv rfl) (ev_opp (ev_vv rfl) ev_ii (add_i _ _)) fun x hx => ?_
    unfold stepL
    simp only [Function.comp, prD]
    simp [-List.map_map, xcall, xv, xnon, xbl, xint, xstr, xg, xop, xcmp, xchain, xisN, xnotN, xand, xor, xnot, xite, xbi, xisi, xtup, xlst, xix, xsl, xrev, xget, xlvals, xoget, xolen, evs, evO, evC, evS, evSs, evR, bindP, unpD, freeze, wipeE, En.get, En.own, asB, asI, isNo, sub_i]
  rw [evSs_nx (ρ' := [.fz scr, .fz (.list (ds.map PyData.int)), .fz basD, .fz (.int (t : Int)), .fz (fr b), .fz (.int lo), .fz (.int hi), .fz (.int s), .fz (.int mv), .fz (spD w), y10, y11, y12, y13, y14, y15, y16, y17, y18, y19, y20, y21, y22, y23]) (by unfold T22_7; exact ife_nil (ev_cmp (ev_call4 (ev_opp ev_ii (ev_vv rfl) (sub_i _ _)) (ev_vv rfl) (ev_opp ev_ii (ev_vv rfl) (sub_i _ _)) (ev_opp ev_ii (ev_vv rfl) (sub_i _ _)) rf) (ev_call2 (ev_vv rfl) (ev_tup_of e7) rx2) n2))]
  rw [evSs_nx (ρ' := [.fz scr, .fz (.list (ds.map PyData.int)), .fz basD, .fz (.int (t : Int)), .fz (fr b), .fz (.int lo), .fz (.int hi), .fz (.int s), .fz (.int mv), .fz (spD w), .fz (.int wd), y11, y12, y13, y14, y15, y16, y17, y18, y19, y20, y21, y22, y23]) (by unfold T22_8; exact ev_asg ((ev_opp (ev_bi1 (ev_ixx (ev_vv rfl) (ev_opp ev_ii (ev_vv rfl) (add_i _ _)) ha5) (int_int _)) ev_ii (mod_i (by decide))).trans (by rw [hwd])))]
  have m9 := mul_small (a := 2) (b := wd) (by decide) (by omega)
  rw [evSs_nx (ρ' := [.fz scr, .fz (.list (ds.map PyData.int)), .fz basD, .fz (.int (t : Int)), .fz (fr b), .fz (.int lo), .fz (.int hi), .fz (.int s), .fz (.int mv), .fz (spD w), .fz (.int wd), .fz (spD wW), y12, y13, y14, y15, y16, y17, y18, y19, y20, y21, y22, y23]) (by unfold T22_9; exact ev_asg (ev_call4 (ev_vv rfl) (ev_vv rfl) (ev_opp (ev_vv rfl) (ev_vv rfl) (sub_i _ _)) (ev_opp (ev_vv rfl) (ev_opp ev_ii (ev_vv rfl) m9) (add_i _ _)) rW))]
  have e10 : ev (Gk 1) (.lc [15] (.tup (.cons (.v 15) (.cons (.bi .max (.cons (.v 5) (.cons (.bi .min (.cons (.v 6) (.cons (.v 15) .nil))) .nil))) .nil))) (.v 15) (.rng2 (.op .sub (.v 5) (.v 10)) (.op .add (.op .add (.v 6) (.op .mul (.int 2) (.v 10))) (.int 1))) .non) [.fz scr, .fz (.list (ds.map PyData.int)), .fz basD, .fz (.int (t : Int)), .fz (fr b), .fz (.int lo), .fz (.int hi), .fz (.int s), .fz (.int mv), .fz (spD w), .fz (.int wd), .fz (spD wW), y12, y13, y14, y15, y16, y17, y18, y19, y20, y21, y22, y23] = some (.list ((prO (lo - wd) (hi + 2 * wd + 1 - (lo - wd)).toNat fun j => max lo (min hi j)).map prD)) := by
    unfold prO
    rw [List.map_map]
    refine ev_tuple_rng2 (by omega) (by omega) (by omega) (by omega) (ev_opp (ev_vv rfl) (ev_vv rfl) (sub_i _ _)) (ev_opp (ev_opp (ev_vv rfl) (ev_opp ev_ii (ev_vv rfl) m9) (add_i _ _)) ev_ii (add_i _ _)) fun x hx => ?_
    have e1 := min2 (T := (Gk 1).tups) hi (lo - wd + x)
    have e2 := max2 (T := (Gk 1).tups) lo (min hi (lo - wd + x))
    unfold stepL
    simp only [Function.comp, prD]
    simp [-List.map_map, xcall, xv, xnon, xbl, xint, xstr, xg, xop, xcmp, xchain, xisN, xnotN, xand, xor, xnot, xite, xbi, xisi, xtup, xlst, xix, xsl, xrev, xget, xlvals, xoget, xolen, evs, evO, evC, evS, evSs, evR, bindP, unpD, freeze, wipeE, En.get, En.own, asB, asI, isNo, e1, e2]
  rw [evSs_nx (ρ' := [.fz scr, .fz (.list (ds.map PyData.int)), .fz basD, .fz (.int (t : Int)), .fz (fr b), .fz (.int lo), .fz (.int hi), .fz (.int s), .fz (.int mv), .fz (spD w), .fz (.int wd), .fz (spD wW), y12, y13, y14, y15, y16, y17, y18, y19, y20, y21, y22, y23]) (by unfold T22_10; exact ife_nil (ev_cmp (ev_call2 (ev_vv rfl) (ev_tup_of e10) rx3) (ev_vv rfl) n3))]
  have e11 : ev (Gk 1) (.call "two_sided" (.cons (.op .add (.op .add (.v 7) (.int 1)) (.v 10)) (.cons (.v 4) (.cons (.v 5) (.cons (.v 6) .nil))))) [.fz scr, .fz (.list (ds.map PyData.int)), .fz basD, .fz (.int (t : Int)), .fz (fr b), .fz (.int lo), .fz (.int hi), .fz (.int s), .fz (.int mv), .fz (spD w), .fz (.int wd), .fz (spD wW), y12, y13, y14, y15, y16, y17, y18, y19, y20, y21, y22, y23] = some (spD wM) := ev_call4 (ev_opp (ev_opp (ev_vv rfl) ev_ii (add_i _ _)) (ev_vv rfl) (add_i _ _)) (ev_vv rfl) (ev_vv rfl) (ev_vv rfl) rM
  have e11b : ev (Gk 1) (.tup (.cons (.int 0) (.cons (.int 1) .nil))) [.fz scr, .fz (.list (ds.map PyData.int)), .fz basD, .fz (.int (t : Int)), .fz (fr b), .fz (.int lo), .fz (.int hi), .fz (.int s), .fz (.int mv), .fz (spD w), .fz (.int wd), .fz (spD wW), y12, y13, y14, y15, y16, y17, y18, y19, y20, y21, y22, y23] = some (fr 0) := ev_tup2 ev_ii ev_ii
  rw [evSs_nx (ρ' := [.fz scr, .fz (.list (ds.map PyData.int)), .fz basD, .fz (.int (t : Int)), .fz (fr b), .fz (.int lo), .fz (.int hi), .fz (.int s), .fz (.int mv), .fz (spD w), .fz (.int wd), .fz (spD wW), .fz (spD wM), .fz (fr 0), .fz (fr 0), y15, y16, y17, y18, y19, y20, y21, y22, y23]) (by unfold T22_11; simp only [evS, evR, e11, e11b, Option.bind_some, Option.map_some]; rfl)]
  obtain ⟨ρ12, f12, t15, e12⟩ := forL_rng (P := fun j ρ => ∃ t15, ρ = [.fz scr, .fz (.list (ds.map PyData.int)), .fz basD, .fz (.int (t : Int)), .fz (fr b), .fz (.int lo), .fz (.int hi), .fz (.int s), .fz (.int mv), .fz (spD w), .fz (.int wd), .fz (spD wW), .fz (spD wM), .fz (fr (Stl b s lo hi (hi + 1 - (j : Int)))), .fz (fr (Stl b (s + 1 + wd) lo hi (hi + 1 - (j : Int)))), t15, y16, y17, y18, y19, y20, y21, y22, y23]) (fun i : Nat => PyData.int (hi + (i : Int) * (-1))) (hi - (lo - 1)).toNat [.fz scr, .fz (.list (ds.map PyData.int)), .fz basD, .fz (.int (t : Int)), .fz (fr b), .fz (.int lo), .fz (.int hi), .fz (.int s), .fz (.int mv), .fz (spD w), .fz (.int wd), .fz (spD wW), .fz (spD wM), .fz (fr 0), .fz (fr 0), y15, y16, y17, y18, y19, y20, y21, y22, y23] ⟨y15, by
      have e1 : Stl b s lo hi (hi + 1 - ((0 : Nat) : Int)) = 0 := by unfold Stl; rw [if_neg (by omega), if_neg (by omega)]
      have e2 : Stl b (s + 1 + wd) lo hi (hi + 1 - ((0 : Nat) : Int)) = 0 := by unfold Stl; rw [if_neg (by omega), if_neg (by omega)]
      rw [e1, e2]⟩ (step := fun d ρ1 => (bindP (.v 15) d ρ1).bind fun ρ2 => evSs (Gk 1) (.cons (.par 13 14 (.ex (.call "_law_plus" (.cons (.v 13) (.cons (.call "chance_of" (.cons (.v 9) (.cons (.v 15) .nil))) .nil)))) (.ex (.call "_law_plus" (.cons (.v 14) (.cons (.call "chance_of" (.cons (.v 12) (.cons (.v 15) .nil))) .nil))))) (.cons (.ife (.call "_law_is_above" (.cons (.v 13) (.cons (.v 14) .nil))) (.cons (.ret (.bl false)) .nil) .nil) .nil)) ρ2) (by
    rintro j ρ hj ⟨t15, rfl⟩
    have hk : hi + (j : Int) * (-1) = hi - j := by omega
    have k1 : hi + 1 - ((j + 1 : Nat) : Int) = hi - j := by omega
    have a1 := a_lplus (seS (hi + 1 - (j : Int))) (sePw (hi - j)) 1 (by decide +kernel)
    have a2 := a_lplus (seT (hi + 1 - (j : Int))) (sePM (hi - j)) 1 (by decide +kernel)
    have e1 : Stl b s lo hi (hi + 1 - (j : Int)) + pr w (hi - j) = Stl b s lo hi (hi - j) := by
      rw [pw, show hi - (j : Int) + 1 = hi + 1 - j by omega]
      grind
    have e2 : Stl b (s + 1 + wd) lo hi (hi + 1 - (j : Int)) + pr wM (hi - j) = Stl b (s + 1 + wd) lo hi (hi - j) := by
      rw [pM, show hi - (j : Int) + 1 = hi + 1 - j by omega]
      grind
    rw [e1] at a1
    rw [e2] at a2
    have a3 := notab (seS (hi - (j : Int))) (seT (hi - (j : Int))) (Stl_mono B (by omega) _)
    refine ⟨[.fz scr, .fz (.list (ds.map PyData.int)), .fz basD, .fz (.int (t : Int)), .fz (fr b), .fz (.int lo), .fz (.int hi), .fz (.int s), .fz (.int mv), .fz (spD w), .fz (.int wd), .fz (spD wW), .fz (spD wM), .fz (fr (Stl b s lo hi (hi + 1 - ((j + 1 : Nat) : Int)))), .fz (fr (Stl b (s + 1 + wd) lo hi (hi + 1 - ((j + 1 : Nat) : Int)))), .fz (.int (hi - (j : Int))), y16, y17, y18, y19, y20, y21, y22, y23], ?_, .fz (.int (hi - (j : Int))), rfl⟩
    show evSs (Gk 1) _ [.fz scr, .fz (.list (ds.map PyData.int)), .fz basD, .fz (.int (t : Int)), .fz (fr b), .fz (.int lo), .fz (.int hi), .fz (.int s), .fz (.int mv), .fz (spD w), .fz (.int wd), .fz (spD wW), .fz (spD wM), .fz (fr (Stl b s lo hi (hi + 1 - (j : Int)))), .fz (fr (Stl b (s + 1 + wd) lo hi (hi + 1 - (j : Int)))), .fz (.int (hi + (j : Int) * (-1))), y16, y17, y18, y19, y20, y21, y22, y23] = _
    rw [hk, k1]
    have g1 : ev (Gk 1) (.call "_law_plus" (.cons (.v 13) (.cons (.call "chance_of" (.cons (.v 9) (.cons (.v 15) .nil))) .nil))) [.fz scr, .fz (.list (ds.map PyData.int)), .fz basD, .fz (.int (t : Int)), .fz (fr b), .fz (.int lo), .fz (.int hi), .fz (.int s), .fz (.int mv), .fz (spD w), .fz (.int wd), .fz (spD wW), .fz (spD wM), .fz (fr (Stl b s lo hi (hi + 1 - (j : Int)))), .fz (fr (Stl b (s + 1 + wd) lo hi (hi + 1 - (j : Int)))), .fz (.int (hi - (j : Int))), y16, y17, y18, y19, y20, y21, y22, y23] = some (fr (Stl b s lo hi (hi - j))) := ev_call2 (ev_vv rfl) (ev_call2 (ev_vv rfl) (ev_vv rfl) (chw _)) a1
    have g2 : ev (Gk 1) (.call "_law_plus" (.cons (.v 14) (.cons (.call "chance_of" (.cons (.v 12) (.cons (.v 15) .nil))) .nil))) [.fz scr, .fz (.list (ds.map PyData.int)), .fz basD, .fz (.int (t : Int)), .fz (fr b), .fz (.int lo), .fz (.int hi), .fz (.int s), .fz (.int mv), .fz (spD w), .fz (.int wd), .fz (spD wW), .fz (spD wM), .fz (fr (Stl b s lo hi (hi + 1 - (j : Int)))), .fz (fr (Stl b (s + 1 + wd) lo hi (hi + 1 - (j : Int)))), .fz (.int (hi - (j : Int))), y16, y17, y18, y19, y20, y21, y22, y23] = some (fr (Stl b (s + 1 + wd) lo hi (hi - j))) := ev_call2 (ev_vv rfl) (ev_call2 (ev_vv rfl) (ev_vv rfl) (chM _)) a2
    rw [evSs_nx (ρ' := [.fz scr, .fz (.list (ds.map PyData.int)), .fz basD, .fz (.int (t : Int)), .fz (fr b), .fz (.int lo), .fz (.int hi), .fz (.int s), .fz (.int mv), .fz (spD w), .fz (.int wd), .fz (spD wW), .fz (spD wM), .fz (fr (Stl b s lo hi (hi - (j : Int)))), .fz (fr (Stl b (s + 1 + wd) lo hi (hi - (j : Int)))), .fz (.int (hi - (j : Int))), y16, y17, y18, y19, y20, y21, y22, y23]) (by simp only [evS, evR, g1, g2, Option.bind_some, Option.map_some]; rfl)]
    rw [evSs_nx (ife_nil (ev_call2 (ev_vv rfl) (ev_vv rfl) a3))]
    rfl)
  subst e12
  have it12 : evI (Gk 1) (.rng3 (.v 6) (.op .sub (.v 5) (.int 1)) (.neg (.int 1))) [.fz scr, .fz (.list (ds.map PyData.int)), .fz basD, .fz (.int (t : Int)), .fz (fr b), .fz (.int lo), .fz (.int hi), .fz (.int s), .fz (.int mv), .fz (spD w), .fz (.int wd), .fz (spD wW), .fz (spD wM), .fz (fr 0), .fz (fr 0), y15, y16, y17, y18, y19, y20, y21, y22, y23] = some ((List.range (hi - (lo - 1)).toNat).map fun i : Nat => .int (hi + (i : Int) * (-1))) := by
    have e : ∀ ρ : En, evI (Gk 1) (.rng3 (.v 6) (.op .sub (.v 5) (.int 1)) (.neg (.int 1))) ρ = (asI (ev (Gk 1) (.v 6) ρ)).bind fun x => (asI (ev (Gk 1) (.op .sub (.v 5) (.int 1)) ρ)).bind fun y => (asI (ev (Gk 1) (.neg (.int 1)) ρ)).bind fun z => if z = -1 then rngDn x y else none := by
      intro ρ
      simp only [evI]
    have en : ∀ ρ : En, ev (Gk 1) (.neg (.int 1)) ρ = some (.int (-1)) := by
      intro ρ
      simp only [ev, asI, Option.map_some]
    rw [e, ev_vv (d := .int hi) rfl, asI_int, Option.bind_some, ev_opp (ev_vv rfl) ev_ii (sub_i lo 1), asI_int, Option.bind_some, en, asI_int, Option.bind_some, if_pos rfl]
    unfold rngDn
    rw [if_pos (by omega)]
  have st12 : evS (Gk 1) T22_12 [.fz scr, .fz (.list (ds.map PyData.int)), .fz basD, .fz (.int (t : Int)), .fz (fr b), .fz (.int lo), .fz (.int hi), .fz (.int s), .fz (.int mv), .fz (spD w), .fz (.int wd), .fz (spD wW), .fz (spD wM), .fz (fr 0), .fz (fr 0), y15, y16, y17, y18, y19, y20, y21, y22, y23] = some (.nx [.fz scr, .fz (.list (ds.map PyData.int)), .fz basD, .fz (.int (t : Int)), .fz (fr b), .fz (.int lo), .fz (.int hi), .fz (.int s), .fz (.int mv), .fz (spD w), .fz (.int wd), .fz (spD wW), .fz (spD wM), .fz (fr (Stl b s lo hi (hi + 1 - (((hi - (lo - 1)).toNat : Nat) : Int)))), .fz (fr (Stl b (s + 1 + wd) lo hi (hi + 1 - (((hi - (lo - 1)).toNat : Nat) : Int)))), t15, y16, y17, y18, y19, y20, y21, y22, y23]) := by
    unfold T22_12
    exact evS_for it12 f12
  rw [evSs_nx st12]
  generalize Stl b s lo hi (hi + 1 - (((hi - (lo - 1)).toNat : Nat) : Int)) = hh
  generalize Stl b (s + 1 + wd) lo hi (hi + 1 - (((hi - (lo - 1)).toNat : Nat) : Int)) = tx
  have e13 : ev (Gk 1) (.lc [15] (.op .sub (.op .mod (.bi .int (.cons (.ix (.v 1) (.op .add (.op .add (.int 60) (.op .mul (.int 6) (.v 3))) (.v 15))) .nil)) (.int 7)) (.int 3)) (.v 15) (.rng1 (.op .add (.int 2) (.op .mod (.bi .int (.cons (.ix (.v 1) (.op .add (.int 100) (.v 3))) .nil)) (.int 4)))) .non) [.fz scr, .fz (.list (ds.map PyData.int)), .fz basD, .fz (.int (t : Int)), .fz (fr b), .fz (.int lo), .fz (.int hi), .fz (.int s), .fz (.int mv), .fz (spD w), .fz (.int wd), .fz (spD wW), .fz (spD wM), .fz (fr hh), .fz (fr tx), t15, y16, y17, y18, y19, y20, y21, y22, y23] = some (.list ((scL m g).map PyData.int)) := by
    unfold scL
    rw [List.map_map]
    refine ev_tuple_rng (by omega) ((ev_opp ev_ii (ev_opp (ev_bi1 (ev_ixx (ev_vv rfl) (ev_opp ev_ii (ev_vv rfl) (add_i _ _)) ha6) (int_int _)) ev_ii (mod_i (by decide))) (add_i _ _)).trans (by rw [hm])) fun x hx => ?_
    obtain ⟨z, hz, e⟩ := hg x hx
    have mm := mul_small (a := 6) (b := (t : Int)) (by decide) (by omega)
    unfold stepL
    simp only [Function.comp]
    rw [e]
    simp [-List.map_map, xcall, xv, xnon, xbl, xint, xstr, xg, xop, xcmp, xchain, xisN, xnotN, xand, xor, xnot, xite, xbi, xisi, xtup, xlst, xix, xsl, xrev, xget, xlvals, xoget, xolen, evs, evO, evC, evS, evSs, evR, bindP, unpD, freeze, wipeE, En.get, En.own, asB, asI, isNo, mm, add_i, hz, int_int, mod_i (show (0 : Int) < 7 by decide), sub_i]
  rw [evSs_nx (ρ' := [.fz scr, .fz (.list (ds.map PyData.int)), .fz basD, .fz (.int (t : Int)), .fz (fr b), .fz (.int lo), .fz (.int hi), .fz (.int s), .fz (.int mv), .fz (spD w), .fz (.int wd), .fz (spD wW), .fz (spD wM), .fz (fr hh), .fz (fr tx), t15, .fz (.tuple ((scL m g).map PyData.int)), y17, y18, y19, y20, y21, y22, y23]) (by unfold T22_13; exact ev_asg (ev_tup_of e13))]
  have hl : biD (Gk 1).tups .len [.tuple ((scL m g).map PyData.int)] = some (.int (m : Int)) := by simp [biD, scL]
  have e14 : ev (Gk 1) (.tup (.cons (.call "choice" (.cons (.v 16) (.cons (.v 4) .nil))) (.cons (.bi .len (.cons (.v 16) .nil)) .nil))) [.fz scr, .fz (.list (ds.map PyData.int)), .fz basD, .fz (.int (t : Int)), .fz (fr b), .fz (.int lo), .fz (.int hi), .fz (.int s), .fz (.int mv), .fz (spD w), .fz (.int wd), .fz (spD wW), .fz (spD wM), .fz (fr hh), .fz (fr tx), t15, .fz (.tuple ((scL m g).map PyData.int)), y17, y18, y19, y20, y21, y22, y23] = some (.tuple [spD wc, .int (m : Int)]) := ev_tup2 (ev_call2 (ev_vv rfl) (ev_vv rfl) rc) (ev_bi1 (ev_vv rfl) hl)
  rw [evSs_nx (ρ' := [.fz scr, .fz (.list (ds.map PyData.int)), .fz basD, .fz (.int (t : Int)), .fz (fr b), .fz (.int lo), .fz (.int hi), .fz (.int s), .fz (.int mv), .fz (spD w), .fz (.int wd), .fz (spD wW), .fz (spD wM), .fz (fr hh), .fz (fr tx), t15, .fz (.tuple ((scL m g).map PyData.int)), .fz (spD wc), .fz (.int (m : Int)), y19, y20, y21, y22, y23]) (by unfold T22_14; simp only [evS, e14, Option.bind_some]; rfl)]
  have e15 : ev (Gk 1) (.rev (.lrng (.v 18))) [.fz scr, .fz (.list (ds.map PyData.int)), .fz basD, .fz (.int (t : Int)), .fz (fr b), .fz (.int lo), .fz (.int hi), .fz (.int s), .fz (.int mv), .fz (spD w), .fz (.int wd), .fz (spD wW), .fz (spD wM), .fz (fr hh), .fz (fr tx), t15, .fz (.tuple ((scL m g).map PyData.int)), .fz (spD wc), .fz (.int (m : Int)), y19, y20, y21, y22, y23] = some (.list ((List.range m).map fun x : Nat => .int ((m : Int) - 1 - x))) := by
    have e : ∀ ρ : En, ev (Gk 1) (.lrng (.v 18)) ρ = (asI (ev (Gk 1) (.v 18) ρ)).bind fun z => (rngD 0 z).map PyData.list := by
      intro ρ
      simp only [ev]
    rw [xrev, e, ev_vv (d := .int (m : Int)) rfl, asI_int, Option.bind_some, rng_m (show m ≤ 1000 by omega), Option.map_some, Option.bind_some]
    show some (PyData.list (List.reverse _)) = _
    rw [rev_range]
  rw [evSs_nx (ρ' := [.fz scr, .fz (.list (ds.map PyData.int)), .fz basD, .fz (.int (t : Int)), .fz (fr b), .fz (.int lo), .fz (.int hi), .fz (.int s), .fz (.int mv), .fz (spD w), .fz (.int wd), .fz (spD wW), .fz (spD wM), .fz (fr hh), .fz (fr tx), t15, .fz (.tuple ((scL m g).map PyData.int)), .fz (spD wc), .fz (.int (m : Int)), .fz (.list ((List.range m).map fun x : Nat => .int ((m : Int) - 1 - x))), y20, y21, y22, y23]) (by unfold T22_15; exact ev_asg e15)]
  have e16 : ev (Gk 1) (.lc [15] (.ix (.v 16) (.v 15)) (.v 15) (.seq (.v 19)) .non) [.fz scr, .fz (.list (ds.map PyData.int)), .fz basD, .fz (.int (t : Int)), .fz (fr b), .fz (.int lo), .fz (.int hi), .fz (.int s), .fz (.int mv), .fz (spD w), .fz (.int wd), .fz (spD wW), .fz (spD wM), .fz (fr hh), .fz (fr tx), t15, .fz (.tuple ((scL m g).map PyData.int)), .fz (spD wc), .fz (.int (m : Int)), .fz (.list ((List.range m).map fun x : Nat => .int ((m : Int) - 1 - x))), y20, y21, y22, y23] = some (.list ((scL m fun x => g (m - 1 - x)).map PyData.int)) := by
    have es : (scL m fun x => g (m - 1 - x)).map PyData.int = (List.range m).map fun x : Nat => PyData.int (g (m - 1 - x)) := by
      unfold scL
      rw [List.map_map]
      rfl
    rw [es]
    refine ev_lc (ds := (List.range m).map fun x : Nat => .int ((m : Int) - 1 - x)) rfl (compL_all (List.range m) fun x hx => ?_)
    have hx := List.mem_range.mp hx
    have e := sc_at (T := (Gk 1).tups) (m := m) (g := g) (x := m - 1 - x) (by omega)
    rw [show ((m - 1 - x : Nat) : Int) = (m : Int) - 1 - x by omega] at e
    unfold stepL
    simp only [Function.comp]
    simp [-List.map_map, xcall, xv, xnon, xbl, xint, xstr, xg, xop, xcmp, xchain, xisN, xnotN, xand, xor, xnot, xite, xbi, xisi, xtup, xlst, xix, xsl, xrev, xget, xlvals, xoget, xolen, evs, evO, evC, evS, evSs, evR, bindP, unpD, freeze, wipeE, En.get, En.own, asB, asI, isNo, e]
  have e16b : ev (Gk 1) (.lc [15] (.tup (.cons (.ix (.v 19) (.v 15)) (.cons (.v 15) .nil))) (.v 15) (.rng1 (.v 18)) .non) [.fz scr, .fz (.list (ds.map PyData.int)), .fz basD, .fz (.int (t : Int)), .fz (fr b), .fz (.int lo), .fz (.int hi), .fz (.int s), .fz (.int mv), .fz (spD w), .fz (.int wd), .fz (spD wW), .fz (spD wM), .fz (fr hh), .fz (fr tx), t15, .fz (.tuple ((scL m g).map PyData.int)), .fz (spD wc), .fz (.int (m : Int)), .fz (.list ((List.range m).map fun x : Nat => .int ((m : Int) - 1 - x))), y20, y21, y22, y23] = some (.list (prs.map prD)) := by
    rw [hprs, List.map_map]
    refine ev_tuple_rng (by omega) (ev_vv rfl) fun x hx => ?_
    have e : ixD (Gk 1).tups (.list ((List.range m).map fun x : Nat => PyData.int ((m : Int) - 1 - x))) (.int (x : Int)) = some (.int ((m : Int) - 1 - x)) := atI_nat _ (by simp [hx])
    unfold stepL
    simp only [Function.comp, prD]
    simp [-List.map_map, xcall, xv, xnon, xbl, xint, xstr, xg, xop, xcmp, xchain, xisN, xnotN, xand, xor, xnot, xite, xbi, xisi, xtup, xlst, xix, xsl, xrev, xget, xlvals, xoget, xolen, evs, evO, evC, evS, evSs, evR, bindP, unpD, freeze, wipeE, En.get, En.own, asB, asI, isNo, e]
  rw [evSs_nx (ρ' := [.fz scr, .fz (.list (ds.map PyData.int)), .fz basD, .fz (.int (t : Int)), .fz (fr b), .fz (.int lo), .fz (.int hi), .fz (.int s), .fz (.int mv), .fz (spD w), .fz (.int wd), .fz (spD wW), .fz (spD wM), .fz (fr hh), .fz (fr tx), t15, .fz (.tuple ((scL m g).map PyData.int)), .fz (spD wc), .fz (.int (m : Int)), .fz (.list ((List.range m).map fun x : Nat => .int ((m : Int) - 1 - x))), y20, y21, y22, y23]) (by unfold T22_16; exact ife_nil (ev_cmp (ev_call2 (ev_tup_of e16) (ev_vv rfl) rr) (ev_call2 (ev_vv rfl) (ev_tup_of e16b) rxr) n16))]
  have in17 : ∀ (j : Nat), j < m → ∀ k15 : Sl, ∃ t15, forL (fun d ρ1 => (bindP (.v 15) d ρ1).bind fun ρ2 => evSs (Gk 1) (.cons (.ife (.and_ (.cmp .ge (.ix (.v 16) (.v 20)) (.ix (.v 16) (.v 15))) (.cmp .ne (.call "_law_times" (.cons (.call "chance_of" (.cons (.v 17) (.cons (.v 20) .nil))) (.cons (.call "_law_power" (.cons (.v 4) (.cons (.op .sub (.ix (.v 16) (.v 20)) (.ix (.v 16) (.v 15))) .nil))) .nil))) (.call "chance_of" (.cons (.v 17) (.cons (.v 15) .nil))))) (.cons (.ret (.bl false)) .nil) .nil) .nil) ρ2) ((List.range m).map fun x : Nat => PyData.int (x : Int)) [.fz scr, .fz (.list (ds.map PyData.int)), .fz basD, .fz (.int (t : Int)), .fz (fr b), .fz (.int lo), .fz (.int hi), .fz (.int s), .fz (.int mv), .fz (spD w), .fz (.int wd), .fz (spD wW), .fz (spD wM), .fz (fr hh), .fz (fr tx), k15, .fz (.tuple ((scL m g).map PyData.int)), .fz (spD wc), .fz (.int (m : Int)), .fz (.list ((List.range m).map fun x : Nat => .int ((m : Int) - 1 - x))), .fz (.int (j : Int)), y21, y22, y23] = some (.nx [.fz scr, .fz (.list (ds.map PyData.int)), .fz basD, .fz (.int (t : Int)), .fz (fr b), .fz (.int lo), .fz (.int hi), .fz (.int s), .fz (.int mv), .fz (spD w), .fz (.int wd), .fz (spD wW), .fz (spD wM), .fz (fr hh), .fz (fr tx), t15, .fz (.tuple ((scL m g).map PyData.int)), .fz (spD wc), .fz (.int (m : Int)), .fz (.list ((List.range m).map fun x : Nat => .int ((m : Int) - 1 - x))), .fz (.int (j : Int)), y21, y22, y23]) := fun j hj k15 => by
    obtain ⟨ρ', f, tq, e⟩ := forL_rng (P := fun _ ρ => ∃ tq : Sl, ρ = [.fz scr, .fz (.list (ds.map PyData.int)), .fz basD, .fz (.int (t : Int)), .fz (fr b), .fz (.int lo), .fz (.int hi), .fz (.int s), .fz (.int mv), .fz (spD w), .fz (.int wd), .fz (spD wW), .fz (spD wM), .fz (fr hh), .fz (fr tx), tq, .fz (.tuple ((scL m g).map PyData.int)), .fz (spD wc), .fz (.int (m : Int)), .fz (.list ((List.range m).map fun x : Nat => .int ((m : Int) - 1 - x))), .fz (.int (j : Int)), y21, y22, y23]) (fun x : Nat => PyData.int (x : Int)) m [.fz scr, .fz (.list (ds.map PyData.int)), .fz basD, .fz (.int (t : Int)), .fz (fr b), .fz (.int lo), .fz (.int hi), .fz (.int s), .fz (.int mv), .fz (spD w), .fz (.int wd), .fz (spD wW), .fz (spD wM), .fz (fr hh), .fz (fr tx), k15, .fz (.tuple ((scL m g).map PyData.int)), .fz (spD wc), .fz (.int (m : Int)), .fz (.list ((List.range m).map fun x : Nat => .int ((m : Int) - 1 - x))), .fz (.int (j : Int)), y21, y22, y23] ⟨k15, rfl⟩ (step := fun d ρ1 => (bindP (.v 15) d ρ1).bind fun ρ2 => evSs (Gk 1) (.cons (.ife (.and_ (.cmp .ge (.ix (.v 16) (.v 20)) (.ix (.v 16) (.v 15))) (.cmp .ne (.call "_law_times" (.cons (.call "chance_of" (.cons (.v 17) (.cons (.v 20) .nil))) (.cons (.call "_law_power" (.cons (.v 4) (.cons (.op .sub (.ix (.v 16) (.v 20)) (.ix (.v 16) (.v 15))) .nil))) .nil))) (.call "chance_of" (.cons (.v 17) (.cons (.v 15) .nil))))) (.cons (.ret (.bl false)) .nil) .nil) .nil) ρ2) (by
      rintro x ρ hx ⟨tq, rfl⟩
      refine ⟨[.fz scr, .fz (.list (ds.map PyData.int)), .fz basD, .fz (.int (t : Int)), .fz (fr b), .fz (.int lo), .fz (.int hi), .fz (.int s), .fz (.int mv), .fz (spD w), .fz (.int wd), .fz (spD wW), .fz (spD wM), .fz (fr hh), .fz (fr tx), .fz (.int (x : Int)), .fz (.tuple ((scL m g).map PyData.int)), .fz (spD wc), .fz (.int (m : Int)), .fz (.list ((List.range m).map fun x : Nat => .int ((m : Int) - 1 - x))), .fz (.int (j : Int)), y21, y22, y23], ?_, .fz (.int (x : Int)), rfl⟩
      show evSs (Gk 1) _ [.fz scr, .fz (.list (ds.map PyData.int)), .fz basD, .fz (.int (t : Int)), .fz (fr b), .fz (.int lo), .fz (.int hi), .fz (.int s), .fz (.int mv), .fz (spD w), .fz (.int wd), .fz (spD wW), .fz (spD wM), .fz (fr hh), .fz (fr tx), .fz (.int (x : Int)), .fz (.tuple ((scL m g).map PyData.int)), .fz (spD wc), .fz (.int (m : Int)), .fz (.list ((List.range m).map fun x : Nat => .int ((m : Int) - 1 - x))), .fz (.int (j : Int)), y21, y22, y23] = _
      have i1 := sc_at (T := (Gk 1).tups) (g := g) hj
      have i2 := sc_at (T := (Gk 1).tups) (g := g) hx
      have b1 := gb j hj
      have b2 := gb x hx
      have ge := ge_int (T := (Gk 1).tups) (g j) (g x)
      by_cases h : g x ≤ g j
      · rw [decide_eq_true h] at ge
        have c1 := a_lpow B (n := (g j - g x).toNat) (by omega)
        rw [Int.toNat_of_nonneg (by omega)] at c1
        have c2 := a_ltimes (r := pr wc (j : Int)) (s := b ^ (g j - g x).toNat) (sePc _) ((B.pw (by omega)).mono (by decide)) 1 (by decide +kernel)
        have e3 : pr wc (j : Int) * b ^ (g j - g x).toNat = pr wc (x : Int) := by
          rw [pc, pc, if_pos ⟨by omega, by omega⟩, if_pos ⟨by omega, by omega⟩, Int.toNat_natCast, Int.toNat_natCast]
          have := ub_step (b := b) (y := g x) (z := g j) h (by omega)
          unfold ub at this
          rw [← this]
          grind
        rw [e3] at c2
        have n := fr_ne (T := (Gk 1).tups) (show pr wc (x : Int) = pr wc (x : Int) from rfl)
        rw [evSs_nx (ife_nil (ev_andT (ev_cmp (ev_ixx (ev_vv rfl) (ev_vv rfl) i1) (ev_ixx (ev_vv rfl) (ev_vv rfl) i2) ge) (ev_cmp (ev_call2 (ev_call2 (ev_vv rfl) (ev_vv rfl) (chc _)) (ev_call2 (ev_vv rfl) (ev_opp (ev_ixx (ev_vv rfl) (ev_vv rfl) i1) (ev_ixx (ev_vv rfl) (ev_vv rfl) i2) (sub_i _ _)) c1) c2) (ev_call2 (ev_vv rfl) (ev_vv rfl) (chc _)) n)))]
        rfl
      · rw [decide_eq_false h] at ge
        rw [evSs_nx (ife_nil (ev_andF (ev_cmp (ev_ixx (ev_vv rfl) (ev_vv rfl) i1) (ev_ixx (ev_vv rfl) (ev_vv rfl) i2) ge)))]
        rfl)
    subst e
    exact ⟨tq, f⟩
  obtain ⟨ρ17, f17, u15, u20, e17⟩ := forL_rng (P := fun _ ρ => ∃ t15 t20 : Sl, ρ = [.fz scr, .fz (.list (ds.map PyData.int)), .fz basD, .fz (.int (t : Int)), .fz (fr b), .fz (.int lo), .fz (.int hi), .fz (.int s), .fz (.int mv), .fz (spD w), .fz (.int wd), .fz (spD wW), .fz (spD wM), .fz (fr hh), .fz (fr tx), t15, .fz (.tuple ((scL m g).map PyData.int)), .fz (spD wc), .fz (.int (m : Int)), .fz (.list ((List.range m).map fun x : Nat => .int ((m : Int) - 1 - x))), t20, y21, y22, y23]) (fun x : Nat => PyData.int (x : Int)) m [.fz scr, .fz (.list (ds.map PyData.int)), .fz basD, .fz (.int (t : Int)), .fz (fr b), .fz (.int lo), .fz (.int hi), .fz (.int s), .fz (.int mv), .fz (spD w), .fz (.int wd), .fz (spD wW), .fz (spD wM), .fz (fr hh), .fz (fr tx), t15, .fz (.tuple ((scL m g).map PyData.int)), .fz (spD wc), .fz (.int (m : Int)), .fz (.list ((List.range m).map fun x : Nat => .int ((m : Int) - 1 - x))), y20, y21, y22, y23] ⟨t15, y20, rfl⟩ (step := fun d ρ1 => (bindP (.v 20) d ρ1).bind fun ρ2 => evSs (Gk 1) (.cons (.for_ (.v 15) (.rng1 (.v 18)) (.cons (.ife (.and_ (.cmp .ge (.ix (.v 16) (.v 20)) (.ix (.v 16) (.v 15))) (.cmp .ne (.call "_law_times" (.cons (.call "chance_of" (.cons (.v 17) (.cons (.v 20) .nil))) (.cons (.call "_law_power" (.cons (.v 4) (.cons (.op .sub (.ix (.v 16) (.v 20)) (.ix (.v 16) (.v 15))) .nil))) .nil))) (.call "chance_of" (.cons (.v 17) (.cons (.v 15) .nil))))) (.cons (.ret (.bl false)) .nil) .nil) .nil)) .nil) ρ2) (by
    rintro j ρ hj ⟨t15, t20, rfl⟩
    obtain ⟨k15, f⟩ := in17 j hj t15
    refine ⟨[.fz scr, .fz (.list (ds.map PyData.int)), .fz basD, .fz (.int (t : Int)), .fz (fr b), .fz (.int lo), .fz (.int hi), .fz (.int s), .fz (.int mv), .fz (spD w), .fz (.int wd), .fz (spD wW), .fz (spD wM), .fz (fr hh), .fz (fr tx), k15, .fz (.tuple ((scL m g).map PyData.int)), .fz (spD wc), .fz (.int (m : Int)), .fz (.list ((List.range m).map fun x : Nat => .int ((m : Int) - 1 - x))), .fz (.int (j : Int)), y21, y22, y23], ?_, k15, .fz (.int (j : Int)), rfl⟩
    refine Eq.trans bv ?_
    show evSs (Gk 1) _ [.fz scr, .fz (.list (ds.map PyData.int)), .fz basD, .fz (.int (t : Int)), .fz (fr b), .fz (.int lo), .fz (.int hi), .fz (.int s), .fz (.int mv), .fz (spD w), .fz (.int wd), .fz (spD wW), .fz (spD wM), .fz (fr hh), .fz (fr tx), t15, .fz (.tuple ((scL m g).map PyData.int)), .fz (spD wc), .fz (.int (m : Int)), .fz (.list ((List.range m).map fun x : Nat => .int ((m : Int) - 1 - x))), .fz (.int (j : Int)), y21, y22, y23] = _
    have it : evI (Gk 1) (.rng1 (.v 18)) [.fz scr, .fz (.list (ds.map PyData.int)), .fz basD, .fz (.int (t : Int)), .fz (fr b), .fz (.int lo), .fz (.int hi), .fz (.int s), .fz (.int mv), .fz (spD w), .fz (.int wd), .fz (spD wW), .fz (spD wM), .fz (fr hh), .fz (fr tx), t15, .fz (.tuple ((scL m g).map PyData.int)), .fz (spD wc), .fz (.int (m : Int)), .fz (.list ((List.range m).map fun x : Nat => .int ((m : Int) - 1 - x))), .fz (.int (j : Int)), y21, y22, y23] = some ((List.range m).map fun (x : Nat) => .int (x : Int)) := ev_rng (ev_vv rfl) (by omega)
    rw [evSs_nx (evS_for it f)]
    rfl)
  subst e17
  have it17 : evI (Gk 1) (.rng1 (.v 18)) [.fz scr, .fz (.list (ds.map PyData.int)), .fz basD, .fz (.int (t : Int)), .fz (fr b), .fz (.int lo), .fz (.int hi), .fz (.int s), .fz (.int mv), .fz (spD w), .fz (.int wd), .fz (spD wW), .fz (spD wM), .fz (fr hh), .fz (fr tx), t15, .fz (.tuple ((scL m g).map PyData.int)), .fz (spD wc), .fz (.int (m : Int)), .fz (.list ((List.range m).map fun x : Nat => .int ((m : Int) - 1 - x))), y20, y21, y22, y23] = some ((List.range m).map fun (x : Nat) => .int (x : Int)) := ev_rng (ev_vv rfl) (by omega)
  have st17 : evS (Gk 1) T22_17 [.fz scr, .fz (.list (ds.map PyData.int)), .fz basD, .fz (.int (t : Int)), .fz (fr b), .fz (.int lo), .fz (.int hi), .fz (.int s), .fz (.int mv), .fz (spD w), .fz (.int wd), .fz (spD wW), .fz (spD wM), .fz (fr hh), .fz (fr tx), t15, .fz (.tuple ((scL m g).map PyData.int)), .fz (spD wc), .fz (.int (m : Int)), .fz (.list ((List.range m).map fun x : Nat => .int ((m : Int) - 1 - x))), y20, y21, y22, y23] = some (.nx [.fz scr, .fz (.list (ds.map PyData.int)), .fz basD, .fz (.int (t : Int)), .fz (fr b), .fz (.int lo), .fz (.int hi), .fz (.int s), .fz (.int mv), .fz (spD w), .fz (.int wd), .fz (spD wW), .fz (spD wM), .fz (fr hh), .fz (fr tx), u15, .fz (.tuple ((scL m g).map PyData.int)), .fz (spD wc), .fz (.int (m : Int)), .fz (.list ((List.range m).map fun x : Nat => .int ((m : Int) - 1 - x))), u20, y21, y22, y23]) := by
    unfold T22_17
    exact evS_for it17 f17
  rw [evSs_nx st17]
  have g18 := gt_int (T := (Gk 1).tups) (m : Int) 2
  have st18 : ∃ z21 z22, evS (Gk 1) T22_18 [.fz scr, .fz (.list (ds.map PyData.int)), .fz basD, .fz (.int (t : Int)), .fz (fr b), .fz (.int lo), .fz (.int hi), .fz (.int s), .fz (.int mv), .fz (spD w), .fz (.int wd), .fz (spD wW), .fz (spD wM), .fz (fr hh), .fz (fr tx), u15, .fz (.tuple ((scL m g).map PyData.int)), .fz (spD wc), .fz (.int (m : Int)), .fz (.list ((List.range m).map fun x : Nat => .int ((m : Int) - 1 - x))), u20, y21, y22, y23] = some (.nx [.fz scr, .fz (.list (ds.map PyData.int)), .fz basD, .fz (.int (t : Int)), .fz (fr b), .fz (.int lo), .fz (.int hi), .fz (.int s), .fz (.int mv), .fz (spD w), .fz (.int wd), .fz (spD wW), .fz (spD wM), .fz (fr hh), .fz (fr tx), u15, .fz (.tuple ((scL m g).map PyData.int)), .fz (spD wc), .fz (.int (m : Int)), .fz (.list ((List.range m).map fun x : Nat => .int ((m : Int) - 1 - x))), u20, z21, z22, y23]) := by
    unfold T22_18
    by_cases h3 : (2 : Int) < m
    · rw [decide_eq_true h3] at g18
      refine ⟨.fz (spD wl), .fz (fr (1 - pr wc 0)), ?_⟩
      rw [ife_yes (ev_cmp (ev_vv rfl) ev_ii g18)]
      have sl1 : slD (.tuple ((scL m g).map PyData.int)) (some 1) none = some (.tuple ((scL (m - 1) fun x => g (x + 1)).map PyData.int)) := by
        show some (PyData.tuple (cutD _ (some ((1 : Nat) : Int)) none)) = _
        unfold cutD
        rw [HT.sIx_none, HT.sIx_nat]
        have e : (scL m g) = g 0 :: scL (m - 1) (fun x => g (x + 1)) := by
          unfold scL
          obtain ⟨n, rfl⟩ : ∃ n, m = n + 1 := ⟨m - 1, by omega⟩
          rw [List.range_succ_eq_map, List.map_cons, List.map_map]
          rfl
        rw [e, List.map_cons]
        simp [List.take_of_length_le]
      have e1 : ev (Gk 1) (.sl (.v 16) (.some (.int 1)) .non) [.fz scr, .fz (.list (ds.map PyData.int)), .fz basD, .fz (.int (t : Int)), .fz (fr b), .fz (.int lo), .fz (.int hi), .fz (.int s), .fz (.int mv), .fz (spD w), .fz (.int wd), .fz (spD wW), .fz (spD wM), .fz (fr hh), .fz (fr tx), u15, .fz (.tuple ((scL m g).map PyData.int)), .fz (spD wc), .fz (.int (m : Int)), .fz (.list ((List.range m).map fun x : Nat => .int ((m : Int) - 1 - x))), u20, y21, y22, y23] = some (.tuple ((scL (m - 1) fun x => g (x + 1)).map PyData.int)) := by
        rw [xsl, ev_vv (d := .tuple ((scL m g).map PyData.int)) rfl]
        simp only [evO, xint, asI, Option.map_some, Option.bind_some]
        exact sl1
      rw [evSs_nx (ev_asg (ev_call2 e1 (ev_vv rfl) rl))]
      have c0 := a_lminus (r := 1) (s := pr wc 0) ((bd1 1).se (by decide) (by decide) (by decide)) (sePc 0) 1 (by decide +kernel)
      rw [show fr 1 = .tuple [.int 1, .int 1] from rfl] at c0
      have se1 : Se (1 - pr wc 0) := by
        have h := pr_bd sc 0
        exact (⟨by have := h.le; simp at this; grind, by have := h.nn; have z : 1 - pr wc 0 ≤ 1 := by grind
                                                         simpa using z, dvd_sub (dvd_one _) h.dv⟩ : Bd Tc 1 _).se T0 (by omega) (by decide)
      rw [evSs_nx (ρ' := [.fz scr, .fz (.list (ds.map PyData.int)), .fz basD, .fz (.int (t : Int)), .fz (fr b), .fz (.int lo), .fz (.int hi), .fz (.int s), .fz (.int mv), .fz (spD w), .fz (.int wd), .fz (spD wW), .fz (spD wM), .fz (fr hh), .fz (fr tx), u15, .fz (.tuple ((scL m g).map PyData.int)), .fz (spD wc), .fz (.int (m : Int)), .fz (.list ((List.range m).map fun x : Nat => .int ((m : Int) - 1 - x))), u20, .fz (spD wl), .fz (fr (1 - pr wc 0)), y23]) (ev_asg (ev_call2 (ev_tup2 ev_ii ev_ii) (ev_call2 (ev_vv rfl) ev_ii (chc 0)) c0))]
      have sm1 : opD .sub (.int (m : Int)) (.int 1) = some (.int ((m - 1 : Nat) : Int)) := by
        rw [sub_i, show ((m - 1 : Nat) : Int) = (m : Int) - 1 by omega]
      have ea : ev (Gk 1) (.bi .any (.cons (.lc [15] (.cmp .ne (.call "_law_times" (.cons (.v 22) (.cons (.call "chance_of" (.cons (.v 21) (.cons (.v 15) .nil))) .nil))) (.call "chance_of" (.cons (.v 17) (.cons (.op .add (.v 15) (.int 1)) .nil)))) (.v 15) (.rng1 (.op .sub (.v 18) (.int 1))) .non) .nil)) [.fz scr, .fz (.list (ds.map PyData.int)), .fz basD, .fz (.int (t : Int)), .fz (fr b), .fz (.int lo), .fz (.int hi), .fz (.int s), .fz (.int mv), .fz (spD w), .fz (.int wd), .fz (spD wW), .fz (spD wM), .fz (fr hh), .fz (fr tx), u15, .fz (.tuple ((scL m g).map PyData.int)), .fz (spD wc), .fz (.int (m : Int)), .fz (.list ((List.range m).map fun x : Nat => .int ((m : Int) - 1 - x))), u20, .fz (spD wl), .fz (fr (1 - pr wc 0)), y23] = some (.bool false) := by
        refine ev_bi1 (ev_tuple_rng (m := m - 1) (g := fun _ => .bool false) (by omega) (ev_opp (ev_vv rfl) ev_ii sm1) fun x hx => ?_) (any_false _ fun d hd => by
          obtain ⟨_, _, e⟩ := List.mem_map.mp hd
          exact e.symm)
        have c1 := a_ltimes (r := 1 - pr wc 0) (s := pr wl (x : Int)) se1 (sePl _) 1 (by decide +kernel)
        have e2 : (1 - pr wc 0) * pr wl (x : Int) = pr wc ((x : Int) + 1) := by
          have u2 := uc
          obtain ⟨n, hn⟩ : ∃ n, m = n + 1 := ⟨m - 1, by omega⟩
          rw [hn, sumN_succ, sumN_mul] at u2
          have u3 := ul
          rw [hn, show n + 1 - 1 = n by omega, sumN_mul] at u3
          have p0 : pr wc 0 = cc * ub b (g 0) := by
            rw [pc, if_pos ⟨by omega, by omega⟩]
            rfl
          have px : pr wl (x : Int) = cl * ub b (g (x + 1)) := by
            rw [pl_, if_pos ⟨by omega, by omega⟩, Int.toNat_natCast]
            rfl
          have px1 : pr wc ((x : Int) + 1) = cc * ub b (g (x + 1)) := by
            rw [pc, if_pos ⟨by omega, by omega⟩, show ((x : Int) + 1).toNat = x + 1 by omega]
            rfl
          rw [p0, px, px1]
          generalize sumN n (fun x => ub b (g (x + 1))) = S at *
          generalize ub b (g (x + 1)) = q at *
          have e4 : 1 - cc * ub b (g 0) = cc * S := by grind
          rw [e4]
          grind
        rw [e2] at c1
        have n := fr_ne (T := (Gk 1).tups) (show pr wc ((x : Int) + 1) = pr wc ((x : Int) + 1) from rfl)
        unfold stepL
        simp only [bindP, wipeE, Option.bind_some, evC, if_true]
        rw [show ev (Gk 1) (.cmp .ne (.call "_law_times" (.cons (.v 22) (.cons (.call "chance_of" (.cons (.v 21) (.cons (.v 15) .nil))) .nil))) (.call "chance_of" (.cons (.v 17) (.cons (.op .add (.v 15) (.int 1)) .nil)))) _ = some (.bool false) from ev_cmp (ev_call2 (ev_vv rfl) (ev_call2 (ev_vv rfl) (ev_vv rfl) (chl _)) c1) (ev_call2 (ev_vv rfl) (ev_opp (ev_vv rfl) ev_ii (add_i _ _)) (chc _)) n]
        rfl
      rw [evSs_nx (ife_nil ea)]
      rfl
    · rw [decide_eq_false h3] at g18
      exact ⟨y21, y22, ife_nil (ev_cmp (ev_vv rfl) ev_ii g18)⟩
  obtain ⟨z21, z22, st18⟩ := st18
  rw [evSs_nx st18]
  have e19 : ev (Gk 1) (.lc [23] (.op .add (.v 23) (.v 8)) (.v 23) (.seq (.v 16)) .non) [.fz scr, .fz (.list (ds.map PyData.int)), .fz basD, .fz (.int (t : Int)), .fz (fr b), .fz (.int lo), .fz (.int hi), .fz (.int s), .fz (.int mv), .fz (spD w), .fz (.int wd), .fz (spD wW), .fz (spD wM), .fz (fr hh), .fz (fr tx), u15, .fz (.tuple ((scL m g).map PyData.int)), .fz (spD wc), .fz (.int (m : Int)), .fz (.list ((List.range m).map fun x : Nat => .int ((m : Int) - 1 - x))), u20, z21, z22, y23] = some (.list ((scL m fun x => g x + mv).map PyData.int)) := by
    have es : (scL m fun x => g x + mv).map PyData.int = (List.range m).map fun x : Nat => PyData.int (g x + mv) := by
      unfold scL
      rw [List.map_map]
      rfl
    have eg : (scL m g).map PyData.int = (List.range m).map fun x : Nat => PyData.int (g x) := by
      unfold scL
      rw [List.map_map]
      rfl
    rw [es]
    refine ev_lc (ds := (List.range m).map fun x : Nat => .int (g x)) (by
      rw [← eg]
      rfl) (compL_all (List.range m) fun x hx => ?_)
    unfold stepL
    simp only [Function.comp]
    simp [-List.map_map, xcall, xv, xnon, xbl, xint, xstr, xg, xop, xcmp, xchain, xisN, xnotN, xand, xor, xnot, xite, xbi, xisi, xtup, xlst, xix, xsl, xrev, xget, xlvals, xoget, xolen, evs, evO, evC, evS, evSs, evR, bindP, unpD, freeze, wipeE, En.get, En.own, asB, asI, isNo, add_i]
  have st19 : evS (Gk 1) T22_19 [.fz scr, .fz (.list (ds.map PyData.int)), .fz basD, .fz (.int (t : Int)), .fz (fr b), .fz (.int lo), .fz (.int hi), .fz (.int s), .fz (.int mv), .fz (spD w), .fz (.int wd), .fz (spD wW), .fz (spD wM), .fz (fr hh), .fz (fr tx), u15, .fz (.tuple ((scL m g).map PyData.int)), .fz (spD wc), .fz (.int (m : Int)), .fz (.list ((List.range m).map fun x : Nat => .int ((m : Int) - 1 - x))), u20, z21, z22, y23] = some (.nx [.fz scr, .fz (.list (ds.map PyData.int)), .fz basD, .fz (.int (t : Int)), .fz (fr b), .fz (.int lo), .fz (.int hi), .fz (.int s), .fz (.int mv), .fz (spD w), .fz (.int wd), .fz (spD wW), .fz (spD wM), .fz (fr hh), .fz (fr tx), u15, .fz (.tuple ((scL m g).map PyData.int)), .fz (spD wc), .fz (.int (m : Int)), .fz (.list ((List.range m).map fun x : Nat => .int ((m : Int) - 1 - x))), u20, z21, z22, y23]) := by
    unfold T22_19
    exact ife_nil (ev_cmp (ev_call2 (ev_tup_of e19) (ev_vv rfl) rk) (ev_vv rfl) n19)
  rw [evSs_nx st19]
  exact ⟨_, _, _, _, _, _, _, _, _, _, _, _, _, _, _, _, _, _, _, _, rfl⟩
end PL


set_option Elab.async false
set_option linter.all false
set_option maxRecDepth 100000
set_option exponentiation.threshold 20000
/-! Q5: k22's law. -/
namespace PL
open PySem
theorem k22_law (ns : List Int) (hn : ns.length ≤ 63) : run (Gk 1) K22.f_law.ps.length K22.f_law.N.length K22.f_law.body [.list (ns.map PyData.int)] = some (.bool true) := by
  obtain ⟨ds, hd, hr⟩ := a_draws hn (n := 300) (by decide)
  have hr := hr 1 (by decide +kernel)
  have hr : ap (Gk 1) "_law_draws" [.list (ns.map PyData.int), .int 300] = some (.list (ds.map PyData.int)) := hr
  obtain ⟨ρ', h1, h2⟩ := forL_ex (P := fun _ ρ => ∃ x3 z4 z5 z6 z7 z8 z9 z10 z11 z12 z13 z14 z15 z16 z17 z18 z19 z20 z21 z22 z23, ρ = [.fz (.list (ns.map PyData.int)), .fz (.list (ds.map PyData.int)), .fz basD, x3, z4, z5, z6, z7, z8, z9, z10, z11, z12, z13, z14, z15, z16, z17, z18, z19, z20, z21, z22, z23]) ((List.range 6).map fun (j : Nat) => PyData.int (j : Int)) 0 _ ⟨.un, .un, .un, .un, .un, .un, .un, .un, .un, .un, .un, .un, .un, .un, .un, .un, .un, .un, .un, .un, .un, rfl⟩ (step := fun d ρ1 => (bindP (.v 3) d ρ1).bind fun ρ2 => evSs (Gk 1) T22_body ρ2) (by
    rintro j ρ d hd' _ ⟨x3, z4, z5, z6, z7, z8, z9, z10, z11, z12, z13, z14, z15, z16, z17, z18, z19, z20, z21, z22, z23, rfl⟩
    obtain ⟨t, ht, rfl⟩ := List.mem_map.mp hd'
    obtain ⟨u4, u5, u6, u7, u8, u9, u10, u11, u12, u13, u14, u15, u16, u17, u18, u19, u20, u21, u22, u23, hu⟩ := k22_turn (.list (ns.map PyData.int)) ds hd t (List.mem_range.mp ht) z4 z5 z6 z7 z8 z9 z10 z11 z12 z13 z14 z15 z16 z17 z18 z19 z20 z21 z22 z23
    exact ⟨_, Eq.trans bv hu, _, _, _, _, _, _, _, _, _, _, _, _, _, _, _, _, _, _, _, _, _, rfl⟩)
  refine run_of (ρ := [.fz (.list (ns.map PyData.int)), .un, .un, .un, .un, .un, .un, .un, .un, .un, .un, .un, .un, .un, .un, .un, .un, .un, .un, .un, .un, .un, .un, .un]) rfl rfl ?_
  show evSs (Gk 1) K22.b_law _ = _
  rw [T22_law]
  rw [evSs_nx (ρ' := [.fz (.list (ns.map PyData.int)), .fz (.list (ds.map PyData.int)), .un, .un, .un, .un, .un, .un, .un, .un, .un, .un, .un, .un, .un, .un, .un, .un, .un, .un, .un, .un, .un, .un]) (by exact ev_asg (ev_call2 (ev_vv rfl) (by rw [xint]) hr))]
  rw [evSs_nx (ρ' := [.fz (.list (ns.map PyData.int)), .fz (.list (ds.map PyData.int)), .fz basD, .un, .un, .un, .un, .un, .un, .un, .un, .un, .un, .un, .un, .un, .un, .un, .un, .un, .un, .un, .un, .un]) (by rfl)]
  have it : evI (Gk 1) (.rng1 (.int 6)) [.fz (.list (ns.map PyData.int)), .fz (.list (ds.map PyData.int)), .fz basD, .un, .un, .un, .un, .un, .un, .un, .un, .un, .un, .un, .un, .un, .un, .un, .un, .un, .un, .un, .un, .un] = some ((List.range 6).map fun (j : Nat) => .int (j : Int)) := ev_rng (by rw [xint]; rfl) (by decide)
  rw [evSs_nx (evS_for it h1)]
  exact ev_retS xbl
theorem k22_math (ns : List Int) (hn : ns.length ≤ 63) : run ⟨fnsOf (cstOf K22.cns) (tupsOf K22.cns) (K22.dfs.drop 1), cstOf K22.cns, tupsOf K22.cns⟩ K22.f_law.ps.length K22.f_law.N.length K22.f_law.body [.list (ns.map PyData.int)] = some (.bool true) := k22_law ns hn
end PL


set_option maxHeartbeats 0
theorem PySem.Challenge.cw_rowhidden_k22_main_noise_moved_and_mirro_holds : PySem.Challenge.rw_rowhidden_k22_main_noise_moved_and_mirro.Holds :=
  K22.holds fun ns h _ => PL.k22_math ns h
