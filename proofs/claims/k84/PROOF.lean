import PyProof.Rows.All
import PySem.PyData
import PyProof.P3Statements
import PyProof.EqLayable
import KE.LtData
import KE.DataMinMax
import KE.SortKeyed
import KE.DataEq
import HandS.ForMost
import HandS.Deep
import HandS.TupAny
import HandS.Style
import HandS.Conv
import HandS.Zip
import HandS.Wide
import HandS.IsInst
import HandS.Walk
import HandS.DictComp
import HandS.Flow
import KE.SortData
import KE.KDictKeyed
import HandS.TupLen
import KE.KTupSum
import KE.DataFind
import HandS.NoneIn
import KE.DatumOrd
import KE.BitLaws
import PySem.Challenge.RW_aheadhouse_k84_whole_all_best_closed_lot
set_option Elab.async false
set_option linter.all false
/-! PIa: a small language of my own (E, S), beside the Python of the given text, and what a program of it does, over PyData: slots own their list or dict, everything else is data. -/
namespace PI
open PySem PySem.W

abbrev D := PyData
/-- a slot: nothing; data that is never changed again; an object of this slot alone (t: it came in by the t-th lent argument) -/
inductive Sl where
  | un | sh (d : D) | ow (t : Option Nat) (d : D)
abbrev Env := List Sl
/-- what an expression gives: data, a new object's content, the object of a slot -/
inductive RV where
  | sh (d : D) | fr (d : D) | pk (i : Nat)
/-- an argument: data, or an object that is lent -/
inductive Ar where
  | sh (d : D) | io (d : D)

inductive Op2 where | add | sub | mul | fdiv | mod | pow | shl | shr | band
  deriving DecidableEq
inductive Cm where | lt | le | gt | ge | eq | ne | isin | notin | is_ | isnot
  deriving DecidableEq
inductive Ty where | int | bool | str | list | tuple | dict
  deriving DecidableEq
inductive Bi where | len | sum | mn | mx | mn2 | mx2 | srt | tup | lst | dic | abs | int | any | all | isi (ts : List Ty)
  deriving DecidableEq
inductive Mt where | count
  deriving DecidableEq
inductive Mu where | append | extend | pop | popAt | update
  deriving DecidableEq
inductive Tg where
  | nm (i : Nat) | tp (is : List Nat)

mutual
inductive E where
  | v (i : Nat) | con (d : D) | glo (x : Str) (d : D) | no | bad
  | tup (es : Es) | lst (es : Es) | dnk | dnt | dic (k v : E)
  | op2 (o : Op2) (a b : E) | neg (a : E)
  | cmp (o : Cm) (a b : E) | cmp2 (o p : Cm) (a b c : E)
  | and (a b : E) | or (a b : E) | not (a : E) | ite (c a b : E)
  | bi (f : Bi) (es : Es) | lrng (it : It)
  | me (m : Mt) (a : E) (es : Es) | mu (m : Mu) (i : Nat) (es : Es)
  | call (f : Nat) (as : As)
  | ix (a i : E) | sl (a lo hi : E) | rev (a : E)
  | comp (elt : E) (tg : Tg) (it : It) (ifs : Es)
  | dcomp (k v : E) (tg : Tg) (it : It) (ifs : Es)
inductive Es where
  | nil | cons (e : E) (es : Es)
inductive As where
  | nil | val (e : E) (as : As) | io (i : Nat) (as : As)
inductive It where
  | seq (e : E) | rng1 (a : E) | rng2 (a b : E) | zip (a b : E) | enm (a : E)
end
/-- a single target: a name, a place of a slot's object -/
inductive T1 where
  | nm (i : Nat) | ix (i : Nat) (e : E)
inductive Ts where
  | nil | cons (t : T1) (ts : Ts)
mutual
inductive S where
  | expr (e : E) | set (t : T1) (e : E) | par (ts : Ts) (es : Es) | unp (is : List Nat) (e : E)
  | aug (i : Nat) (o : Op2) (e : E)
  | iff (c : E) (a b : Ss) | for (tg : Tg) (it : It) (body : Ss) | whl (c : E) (body : Ss)
  | ret (e : E) | retN | pass | bad | wipe (is : List Nat)
inductive Ss where
  | nil | cons (s : S) (ss : Ss)
end
/-- a def: how many parameters, how many slots, its body -/
structure Fd where
  np : Nat
  ns : Nat
  body : Ss

/-- the most items of a list -/
def LIM : Nat := 16777216

/-! ### values -/
def truth : D → Option Bool
  | .none => some false
  | .bool b => some b
  | .int i => some (i != 0)
  | .list xs => some (!xs.isEmpty)
  | .tuple xs => some (!xs.isEmpty)
  | _ => none
def seqOf : D → Option (List D)
  | .list xs => some xs
  | .tuple xs => some xs
  | _ => none
def intOf : D → Option Int
  | .int i => some i
  | _ => none
def bolOf : D → Option Bool
  | .bool b => some b
  | _ => none
def intsOf : List D → Option (List Int)
  | [] => some []
  | d :: ds => (intOf d).bind fun i => (intsOf ds).bind fun is => some (i :: is)
def bolsOf : List D → Option (List Bool)
  | [] => some []
  | d :: ds => (bolOf d).bind fun i => (bolsOf ds).bind fun is => some (i :: is)
/-- a key that is carried by value -/
def flatK : D → Bool
  | .int _ => true
  | .str _ => true
  | _ => false
/-- a key that is a tuple of such -/
def tupK : D → Bool
  | .tuple xs => xs.all flatK
  | _ => false
def dget (kvs : List (D × D)) (k : D) : Option D := (kvs.find? fun p => PyData.eqv p.1 k).map (·.2)
def dput (kvs : List (D × D)) (k v : D) : List (D × D) :=
  if kvs.any (fun p => PyData.eqv p.1 k) then kvs.map (fun p => if PyData.eqv p.1 k then (p.1, v) else p) else kvs ++ [(k, v)]
def dmerge (kvs more : List (D × D)) : List (D × D) := more.foldl (fun a p => dput a p.1 p.2) kvs
/-- the keys are of one kind, and so is k -/
def keyOk (kvs : List (D × D)) (k : D) : Bool := (flatK k && kvs.all fun p => flatK p.1) || (tupK k && kvs.all fun p => tupK p.1)
/-- a place from either end -/
def placeOf (n : Nat) (i : Int) : Option Nat := if 0 ≤ i then (if i < n then some i.toNat else none) else (if -(n : Int) ≤ i then some (n - (-i).toNat) else none)
def cutD (xs : List D) (lo hi : Option Int) : List D :=
  let f (d : Nat) : Option Int → Nat
    | none => d
    | some i => if 0 ≤ i then min i.toNat xs.length else xs.length - (-i).toNat
  (xs.drop (f 0 lo)).take (f xs.length hi - f 0 lo)
def allAlike (xs : List D) : Bool := xs.all fun a => xs.all fun b => alike a b
/-- data that can be compared by == -/
def okD (d : D) : Bool := d.plain && decide (d.depth ≤ 16)
def isNone : D → Bool
  | .none => true
  | _ => false
def isTup : D → Bool
  | .tuple _ => true
  | _ => false

def op2Ev : Op2 → D → D → Option RV
  | .add, .int i, .int j => some (.sh (.int (i + j)))
  | .add, .list xs, .list ys => if xs.length + ys.length ≤ LIM then some (.fr (.list (xs ++ ys))) else none
  | .add, .tuple xs, .tuple ys => if xs.length + ys.length ≤ LIM then some (.sh (.tuple (xs ++ ys))) else none
  | .sub, .int i, .int j => some (.sh (.int (i - j)))
  | .mul, .int i, .int j => if (i.natAbs < 18446744073709551616 ∨ j.natAbs < 18446744073709551616) ∨ i.natAbs.log2 + j.natAbs.log2 < 1000000 then some (.sh (.int (i * j))) else none
  | .mul, .list xs, .int j => if (-9223372036854775808 ≤ j ∧ j < 9223372036854775808) ∧ xs.length * j.toNat ≤ LIM then some (.fr (.list (List.replicate j.toNat xs).flatten)) else none
  | .fdiv, .int i, .int j => if (j ≠ 0 ∧ j.natAbs < 1073741824) ∨ (0 < j ∧ j.natAbs.log2 < 9000) then some (.sh (.int (i.fdiv j))) else none
  | .mod, .int i, .int j => if j ≠ 0 then some (.sh (.int (i.fmod j))) else none
  | .pow, .int i, .int j => if 0 ≤ j ∧ j ≤ 1000000 ∧ i.natAbs < 18446744073709551616 then some (.sh (.int (i ^ j.toNat))) else none
  | .shl, .int i, .int j => if 0 ≤ j ∧ j ≤ 1000000 ∧ i.natAbs < 18446744073709551616 then some (.sh (.int (i * 2 ^ j.toNat))) else none
  | .shr, .int i, .int j => if 0 ≤ j then some (.sh (.int (i / 2 ^ j.toNat))) else none
  | .band, .int i, .int j => some (.sh (.int (Builtin.bitAnd i j)))
  | _, _, _ => none

def ltEv (x y : D) : Option Bool :=
  match x, y with
  | .int i, .int j => some (decide (i < j))
  | .tuple xs, .tuple ys => if (okD (.tuple xs) && okD (.tuple ys)) && (alike (.tuple xs) (.tuple ys) && alike (.tuple ys) (.tuple xs)) then some (dataLt (.tuple xs) (.tuple ys)) else none
  | _, _ => none
def inEv (x y : D) : Option Bool :=
  match y with
  | .list ys => if okD x && okD (.list ys) then some (ys.any fun z => PyData.eqv z x) else none
  | .tuple ys => if okD x && okD (.tuple ys) then some (ys.any fun z => PyData.eqv z x) else none
  | .dict kvs => if keyOk kvs x then some (dget kvs x).isSome else none
  | _ => none
def isEv (x y : D) : Option Bool :=
  match x, y with
  | x, .none => some (isNone x)
  | .bool a, .bool b => some (decide (a = b))
  | _, _ => none
def cmpEv : Cm → D → D → Option Bool
  | .lt, x, y => ltEv x y
  | .gt, x, y => ltEv y x
  | .le, .int i, .int j => some (decide (i ≤ j))
  | .ge, .int i, .int j => some (decide (j ≤ i))
  | .eq, x, y => if okD x && okD y then some (PyData.eqv x y) else none
  | .ne, x, y => if okD x && okD y then some (!PyData.eqv x y) else none
  | .isin, x, y => inEv x y
  | .notin, x, y => (inEv x y).map (!·)
  | .is_, x, y => isEv x y
  | .isnot, x, y => (isEv x y).map (!·)
  | _, _, _ => none
def isTy : Ty → D → Bool
  | .int, .int _ => true
  | .int, .bool _ => true
  | .bool, .bool _ => true
  | .str, .str _ => true
  | .list, .list _ => true
  | .tuple, .tuple _ => true
  | .dict, .dict _ => true
  | _, _ => false
/-- the script's mark -/
def scrD : D → Bool
  | .dict [(.none, _)] => true
  | _ => false
def pairsOf : List D → Option (List (D × D))
  | [] => some []
  | .tuple [k, v] :: r => (pairsOf r).map ((k, v) :: ·)
  | _ => none
def oneKind (ks : List D) : Bool := ks.all flatK || ks.all tupK
def srtEv (xs : List D) : Option (List D) :=
  if allAlike xs && xs.all (fun x => !isNone x && okD x) then some (xs.mergeSort (dataLe false id)) else none
def biEv : Bi → List D → Option RV
  | .len, [.list xs] => some (.sh (.int xs.length))
  | .len, [.tuple xs] => some (.sh (.int xs.length))
  | .len, [.dict xs] => if oneKind (xs.map (·.1)) then some (.sh (.int xs.length)) else none
  | .sum, [d] => (seqOf d).bind fun xs => (intsOf xs).map fun is => .sh (.int is.sum)
  | .mn, [d] => match seqOf d with
    | some (x :: xs) => if allAlike (x :: xs) && !isNone x && decide (PyData.depthAll (x :: xs) ≤ 16) then some (.sh (minD x xs)) else none
    | _ => none
  | .mx, [d] => match seqOf d with
    | some (x :: xs) => if allAlike (x :: xs) && !isNone x && decide (PyData.depthAll (x :: xs) ≤ 16) then some (.sh (maxD x xs)) else none
    | _ => none
  | .mn2, [.int i, .int j] => some (.sh (.int (if j < i then j else i)))
  | .mx2, [.int i, .int j] => some (.sh (.int (if j > i then j else i)))
  | .srt, [.list xs] => (srtEv xs).map fun ys => .fr (.list ys)
  | .srt, [.tuple xs] => (srtEv xs).map fun ys => .fr (.list ys)
  | .srt, [.dict kvs] => if oneKind (kvs.map (·.1)) then (srtEv (kvs.map (·.1))).map fun ys => .fr (.list ys) else none
  | .tup, [d] => (seqOf d).map fun xs => .sh (.tuple xs)
  | .lst, [d] => (seqOf d).map fun xs => .fr (.list xs)
  | .dic, [.list ps] => (pairsOf ps).bind fun kvs => if oneKind (kvs.map (·.1)) then some (.fr (.dict (dmerge [] kvs))) else none
  | .abs, [.int i] => some (.sh (.int (if i < 0 then -i else i)))
  | .int, [.int i] => some (.sh (.int i))
  | .any, [.list xs] => (bolsOf xs).map fun bs => .sh (.bool (bs.any id))
  | .all, [.list xs] => (bolsOf xs).map fun bs => .sh (.bool (bs.all id))
  | .isi ts, [d] => if scrD d then none else some (.sh (.bool (ts.any fun t => isTy t d)))
  | _, _ => none
def ixEv (a i : D) : Option D :=
  match a, i with
  | .list xs, .int i => (placeOf xs.length i).bind fun j => xs[j]?
  | .tuple xs, .int i => (placeOf xs.length i).bind fun j => xs[j]?
  | .dict kvs, k => if keyOk kvs k then dget kvs k else none
  | _, _ => none
def partOf : D → Option (Option Int)
  | .none => some none
  | .int i => some (some i)
  | _ => none
def slEv (a lo hi : D) : Option RV :=
  (partOf lo).bind fun l => (partOf hi).bind fun h =>
  match a with
  | .dict [(.none, .list xs)] => some (.fr (.list (cutD xs l h)))
  | .list xs => some (.fr (.list (cutD xs l h)))
  | .tuple xs => some (.sh (.tuple (cutD xs l h)))
  | _ => none
def revEv : D → Option RV
  | .list xs => some (.fr (.list xs.reverse))
  | _ => none
def meEv : Mt → D → List D → Option RV
  | .count, a, [x] => (seqOf a).bind fun xs => if okD x && okD a then some (.sh (.int (xs.countP fun z => PyData.eqv z x : Nat))) else none
  | _, _, _ => none
/-- a change of an object: its value, its new content -/
def muEv : Mu → D → List D → Option (D × D)
  | .append, .list xs, [x] => if xs.length < LIM then some (.none, .list (xs ++ [x])) else none
  | .extend, .list xs, [.list ys] => if xs.length + ys.length ≤ LIM then some (.none, .list (xs ++ ys)) else none
  | .pop, .list xs, [] => xs.getLast?.map fun x => (x, .list xs.dropLast)
  | .popAt, .list xs, [.int i] => if i.natAbs < 9223372036854775808 then (placeOf xs.length i).bind fun j => xs[j]?.map fun x => (x, .list (xs.eraseIdx j)) else none
  | .update, .dict kvs, [.dict more] => if ((kvs ++ more).map (·.1)).all tupK && !kvs.isEmpty && decide (kvs.length + more.length ≤ LIM) then some (.none, .dict (dmerge kvs more)) else none
  | _, _, _ => none

/-- methods whose arguments are made data -/
def muF : Mu → Bool
  | .append => true
  | .update => true
  | _ => false

/-- what the methods are of -/
def muK : Mu → D → Bool
  | .update, .dict _ => true
  | .update, _ => false
  | _, .list _ => true
  | _, _ => false

def zipEv : D → D → Option (List D)
  | .list xs, .list ys => some (List.zipWith (fun x y => .tuple [x, y]) xs ys)
  | .tuple xs, .tuple ys => some (List.zipWith (fun x y => .tuple [x, y]) xs ys)
  | _, _ => none
def enmEv : D → Option (List D)
  | .list xs => some (xs.mapIdx fun k x => .tuple [.int (k : Nat), x])
  | _ => none

/-! ### slots -/
def Env.at (ρ : Env) (i : Nat) : Sl := ρ.getD i .un
/-- the content of a result -/
def cont (ρ : Env) : RV → Option D
  | .sh d => some d
  | .fr d => some d
  | .pk i => match ρ.at i with
    | .sh d => some d
    | .ow _ d => some d
    | .un => none
/-- a result becomes data that is never changed again -/
def frz (ρ : Env) : RV → Option (D × Env)
  | .sh d => some (d, ρ)
  | .fr d => some (d, ρ)
  | .pk i => match ρ.at i with
    | .sh d => some (d, ρ)
    | .ow none d => some (d, ρ.set i (.sh d))
    | _ => none
def conts (ρ : Env) : List RV → Option (List D)
  | [] => some []
  | r :: rs => (cont ρ r).bind fun d => (conts ρ rs).bind fun ds => some (d :: ds)
def wipeE (ρ : Env) : List Nat → Env
  | [] => ρ
  | i :: is => (wipeE ρ is).set i .un
/-- the slots is as they were in ρ0 -/
def backE (ρ0 ρ : Env) : List Nat → Env
  | [] => ρ
  | i :: is => (backE ρ0 ρ is).set i (ρ0.at i)
def setAll : List Nat → List D → Env → Option Env
  | [], [], ρ => some ρ
  | i :: is, d :: ds, ρ => setAll is ds (ρ.set i (.sh d))
  | _, _, _ => none
def bindT : Tg → D → Env → Option Env
  | .nm i, d, ρ => some (ρ.set i (.sh d))
  | .tp is, .tuple ds, ρ => setAll is ds ρ
  | .tp is, .list ds, ρ => setAll is ds ρ
  | _, _, _ => none
def Tg.slots : Tg → List Nat
  | .nm i => [i]
  | .tp is => is
/-- what is stored: a new object is owned, data is shared -/
def putR (ρ : Env) (i : Nat) : RV → Option Env
  | .sh d => some (ρ.set i (.sh d))
  | .fr d => some (ρ.set i (.ow none d))
  | .pk j => (frz ρ (.pk j)).map fun p => p.2.set i (.sh p.1)
def compGo (f : D → Env → Option (Option D × Env)) : List D → Env → Option (List D × Env)
  | [], ρ => some ([], ρ)
  | x :: xs, ρ => (f x ρ).bind fun p => (compGo f xs p.2).bind fun q => some (match p.1 with
    | some d => d :: q.1
    | none => q.1, q.2)
/-- what follows a block -/
inductive Fl where
  | nx | rt (fr : Bool) (d : D)
def forGo (f : D → Env → Option (Fl × Env)) : List D → Env → Option (Fl × Env)
  | [], ρ => some (.nx, ρ)
  | x :: xs, ρ => (f x ρ).bind fun p => match p.1 with
    | .nx => forGo f xs p.2
    | .rt b d => some (.rt b d, p.2)
def whlGo (c : Env → Option (Bool × Env)) (b : Env → Option (Fl × Env)) : Nat → Env → Option (Fl × Env)
  | 0, _ => none
  | n + 1, ρ => (c ρ).bind fun t => if t.1 = true then (b t.2).bind fun p => match p.1 with
      | .nx => whlGo c b n p.2
      | .rt y d => some (.rt y d, p.2)
    else some (.nx, t.2)

/-- what is around: what a call of a def gives (new or not, the data, what the lent objects hold then); the fuel of each while -/
structure Ctx where
  cal : Nat → List Ar → Option (Bool × D × List D)
  fuel : Nat

/-- a lent argument by its slot, another by its data -/
inductive Ap where
  | sh (d : D) | io (i : Nat)
def apArgs (ρ : Env) : List Ap → Option (List Ar)
  | [] => some []
  | .sh d :: r => (apArgs ρ r).bind fun as => some (.sh d :: as)
  | .io i :: r => match ρ.at i with
    | .ow _ d => (apArgs ρ r).bind fun as => some (.io d :: as)
    | _ => none
def apSlots : List Ap → List Nat
  | [] => []
  | .sh _ :: r => apSlots r
  | .io i :: r => i :: apSlots r
/-- the lent objects' contents are written back -/
def giveBack (ρ : Env) : List Nat → List D → Option Env
  | [], [] => some ρ
  | i :: is, d :: ds => match ρ.at i with
    | .ow t _ => giveBack (ρ.set i (.ow t d)) is ds
    | _ => none
  | _, _ => none

mutual
def evE (C : Ctx) : E → Env → Option (RV × Env)
  | .v i, ρ => match ρ.at i with
    | .un => none
    | _ => some (.pk i, ρ)
  | .con d, ρ => some (.sh d, ρ)
  | .glo _ d, ρ => some (.sh d, ρ)
  | .no, ρ => some (.sh .none, ρ)
  | .bad, _ => none
  | .tup es, ρ => (evL C es ρ).map fun p => (.sh (.tuple p.1), p.2)
  | .lst es, ρ => (evL C es ρ).map fun p => (.fr (.list p.1), p.2)
  | .dnk, ρ => some (.fr (.dict []), ρ)
  | .dnt, ρ => some (.fr (.dict []), ρ)
  | .dic k v, ρ => (evE C k ρ).bind fun p => (frz p.2 p.1).bind fun p' => (evE C v p'.2).bind fun q => (frz q.2 q.1).bind fun q' =>
      if flatK p'.1 then some (.fr (.dict [(p'.1, q'.1)]), q'.2) else none
  | .op2 o a b, ρ => (evE C a ρ).bind fun p => (evE C b p.2).bind fun q => (cont q.2 p.1).bind fun x => (cont q.2 q.1).bind fun y => (op2Ev o x y).map fun r => (r, q.2)
  | .neg a, ρ => (evE C a ρ).bind fun p => (cont p.2 p.1).bind fun x => (intOf x).map fun i => (.sh (.int (-i)), p.2)
  | .cmp o a b, ρ => (evE C a ρ).bind fun p => (evE C b p.2).bind fun q => (cont q.2 p.1).bind fun x => (cont q.2 q.1).bind fun y => (cmpEv o x y).map fun r => (.sh (.bool r), q.2)
  | .cmp2 o o' a b c, ρ => (evE C a ρ).bind fun p => (evE C b p.2).bind fun q => (cont q.2 p.1).bind fun x => (cont q.2 q.1).bind fun y => (cmpEv o x y).bind fun r =>
      if r = true then (evE C c q.2).bind fun s => (cont s.2 q.1).bind fun y' => (cont s.2 s.1).bind fun z => (cmpEv o' y' z).map fun r' => (.sh (.bool r'), s.2)
      else some (.sh (.bool false), q.2)
  | .and a b, ρ => (evE C a ρ).bind fun p => (cont p.2 p.1).bind fun x => (truth x).bind fun t => if t = true then evE C b p.2 else some p
  | .or a b, ρ => (evE C a ρ).bind fun p => (cont p.2 p.1).bind fun x => (truth x).bind fun t => if t = true then some p else evE C b p.2
  | .not a, ρ => (evE C a ρ).bind fun p => (cont p.2 p.1).bind fun x => (truth x).map fun t => (.sh (.bool (!t)), p.2)
  | .ite c a b, ρ => (evE C c ρ).bind fun p => (cont p.2 p.1).bind fun x => (truth x).bind fun t => if t = true then evE C a p.2 else evE C b p.2
  | .bi f es, ρ => (evR C es ρ).bind fun p => (conts p.2 p.1).bind fun ds => (biEv f ds).map fun r => (r, p.2)
  | .lrng it, ρ => (evI C it ρ).map fun p => (.fr (.list p.1), p.2)
  | .me m a es, ρ => (evE C a ρ).bind fun p => (evR C es p.2).bind fun q => (cont q.2 p.1).bind fun x => (conts q.2 q.1).bind fun ds => (meEv m x ds).map fun r => (r, q.2)
  | .mu m i es, ρ => match ρ.at i with
    | .ow _ c0 => if muK m c0 = true then (if muF m = true then (evL C es ρ).bind fun p => match p.2.at i with
        | .ow t c => (muEv m c p.1).map fun r => (.sh r.1, p.2.set i (.ow t r.2))
        | _ => none
      else (evR C es ρ).bind fun p => (conts p.2 p.1).bind fun ds => match p.2.at i with
        | .ow t c => (muEv m c ds).map fun r => (.sh r.1, p.2.set i (.ow t r.2))
        | _ => none) else none
    | _ => none
  | .call f as, ρ => (evA C as ρ).bind fun p => (apArgs p.2 p.1).bind fun ars => if (apSlots p.1).Nodup then (C.cal f ars).bind fun q =>
      (giveBack p.2 (apSlots p.1) q.2.2).map fun ρ' => (if q.1 = true then .fr q.2.1 else .sh q.2.1, ρ') else none
  | .ix a i, ρ => (evE C a ρ).bind fun p => (evE C i p.2).bind fun q => (cont q.2 p.1).bind fun x => (cont q.2 q.1).bind fun y => (ixEv x y).map fun d => (.sh d, q.2)
  | .sl a lo hi, ρ => (evE C a ρ).bind fun p => (evE C lo p.2).bind fun q => (cont q.2 q.1).bind fun y => (evE C hi q.2).bind fun s => (cont s.2 s.1).bind fun z => (cont s.2 p.1).bind fun x =>
      (slEv x y z).map fun r => (r, s.2)
  | .rev a, ρ => (evE C a ρ).bind fun p => (cont p.2 p.1).bind fun x => (revEv x).map fun r => (r, p.2)
  | .comp elt tg it ifs, ρ => (evI C it ρ).bind fun p =>
      (compGo (fun x ρ => (bindT tg x ρ).bind fun ρ1 => (evF C ifs ρ1).bind fun t => if t.1 = true then (evE C elt t.2).bind fun r => (frz r.2 r.1).map fun z => (some z.1, wipeE z.2 tg.slots)
        else some (none, wipeE t.2 tg.slots)) p.1 (wipeE p.2 tg.slots)).map fun q => (.fr (.list q.1), backE p.2 q.2 tg.slots)
  | .dcomp k v tg it ifs, ρ => (evI C it ρ).bind fun p =>
      (compGo (fun x ρ => (bindT tg x ρ).bind fun ρ1 => (evF C ifs ρ1).bind fun t => if t.1 = true then (evE C k t.2).bind fun r => (frz r.2 r.1).bind fun z => (evE C v z.2).bind fun r' => (frz r'.2 r'.1).map fun z' =>
          (some (.tuple [z.1, z'.1]), wipeE z'.2 tg.slots)
        else some (none, wipeE t.2 tg.slots)) p.1 (wipeE p.2 tg.slots)).bind fun q => (pairsOf q.1).bind fun kvs => if oneKind (kvs.map (·.1)) then some (.fr (.dict (dmerge [] kvs)), backE p.2 q.2 tg.slots) else none
def evL (C : Ctx) : Es → Env → Option (List D × Env)
  | .nil, ρ => some ([], ρ)
  | .cons e es, ρ => (evE C e ρ).bind fun p => (frz p.2 p.1).bind fun p' => (evL C es p'.2).bind fun q => some (p'.1 :: q.1, q.2)
def evR (C : Ctx) : Es → Env → Option (List RV × Env)
  | .nil, ρ => some ([], ρ)
  | .cons e es, ρ => (evE C e ρ).bind fun p => (evR C es p.2).bind fun q => some (p.1 :: q.1, q.2)
def evF (C : Ctx) : Es → Env → Option (Bool × Env)
  | .nil, ρ => some (true, ρ)
  | .cons e _, ρ => (evE C e ρ).bind fun p => (cont p.2 p.1).bind fun x => (truth x).map fun t => (t, p.2)
def evA (C : Ctx) : As → Env → Option (List Ap × Env)
  | .nil, ρ => some ([], ρ)
  | .val e as, ρ => (evE C e ρ).bind fun p => (frz p.2 p.1).bind fun p' => (evA C as p'.2).bind fun q => some (.sh p'.1 :: q.1, q.2)
  | .io i as, ρ => match ρ.at i with
    | .ow _ _ => (evA C as ρ).bind fun q => some (.io i :: q.1, q.2)
    | _ => none
def evI (C : Ctx) : It → Env → Option (List D × Env)
  | .seq e, ρ => (evE C e ρ).bind fun p => (frz p.2 p.1).bind fun q => (seqOf q.1).map fun xs => (xs, q.2)
  | .rng1 a, ρ => (evE C a ρ).bind fun p => (cont p.2 p.1).bind fun x => (intOf x).bind fun n => if n ≤ 16777216 ∧ -16777216 ≤ n then some ((List.range n.toNat).map fun k => .int (k : Nat), p.2) else none
  | .rng2 a b, ρ => (evE C a ρ).bind fun p => (evE C b p.2).bind fun q => (cont q.2 p.1).bind fun x => (cont q.2 q.1).bind fun y => (intOf x).bind fun m => (intOf y).bind fun n =>
      if (-8388608 ≤ m ∧ m ≤ 8388608) ∧ (-8388608 ≤ n ∧ n ≤ 8388608) then some ((List.range (n - m).toNat).map fun k => .int (m + (k : Nat)), q.2) else none
  | .zip a b, ρ => (evE C a ρ).bind fun p => (frz p.2 p.1).bind fun p' => (evE C b p'.2).bind fun q => (frz q.2 q.1).bind fun q' => (zipEv p'.1 q'.1).map fun xs => (xs, q'.2)
  | .enm a, ρ => (evE C a ρ).bind fun p => (frz p.2 p.1).bind fun q => (enmEv q.1).map fun xs => (xs, q.2)
end
/-- a test -/
def evT (C : Ctx) (e : E) (ρ : Env) : Option (Bool × Env) := (evE C e ρ).bind fun p => (cont p.2 p.1).bind fun x => (truth x).map fun t => (t, p.2)

/-- o[k] = v -/
def setIx (c k v : D) : Option D :=
  match c, k with
  | .list xs, .int i => (placeOf xs.length i).bind fun j => if i.natAbs < 9223372036854775808 then some (.list (xs.set j v)) else none
  | .dict kvs, k => if keyOk kvs k && decide (kvs.length < LIM) then some (.dict (dput kvs k v)) else none
  | _, _ => none
def put1 (C : Ctx) (r : RV) : T1 → Env → Option Env
  | .nm i, ρ => putR ρ i r
  | .ix i e, ρ => (frz ρ r).bind fun z => match z.2.at i with
    | .ow _ _ => (evE C e z.2).bind fun p => (frz p.2 p.1).bind fun q => match q.2.at i with
      | .ow t c => (setIx c q.1 z.1).map fun c' => q.2.set i (.ow t c')
      | _ => none
    | _ => none
def putN (C : Ctx) : Ts → List RV → Env → Option Env
  | .nil, [], ρ => some ρ
  | .cons t ts, r :: rs, ρ => (put1 C r t ρ).bind fun ρ1 => putN C ts rs ρ1
  | _, _, _ => none
/-- the results of a tuple's parts: an object that stands in a slot becomes data -/
def evP (C : Ctx) : Es → Env → Option (List RV × Env)
  | .nil, ρ => some ([], ρ)
  | .cons e es, ρ => (evE C e ρ).bind fun p => match p.1 with
    | .pk i => (frz p.2 (.pk i)).bind fun z => (evP C es z.2).bind fun q => some (.sh z.1 :: q.1, q.2)
    | r => (evP C es p.2).bind fun q => some (r :: q.1, q.2)
def retR (ρ : Env) : RV → Option (Bool × D)
  | .sh d => some (false, d)
  | .fr d => some (true, d)
  | .pk i => match ρ.at i with
    | .sh d => some (false, d)
    | .ow none d => some (true, d)
    | _ => none

mutual
def evS (C : Ctx) : S → Env → Option (Fl × Env)
  | .expr e, ρ => (evE C e ρ).map fun p => (.nx, p.2)
  | .set t e, ρ => (evE C e ρ).bind fun p => (put1 C p.1 t p.2).map fun ρ' => (.nx, ρ')
  | .par ts es, ρ => (evP C es ρ).bind fun p => (putN C ts p.1 p.2).map fun ρ' => (.nx, ρ')
  | .unp is e, ρ => (evE C e ρ).bind fun p => (frz p.2 p.1).bind fun q => (seqOf q.1).bind fun ds => (setAll is ds q.2).map fun ρ' => (.nx, ρ')
  | .aug i o e, ρ => match ρ.at i with
    | .sh (.int x) => (evE C e ρ).bind fun p => (cont p.2 p.1).bind fun y => match o, y with
      | .add, .int j => some (.nx, p.2.set i (.sh (.int (x + j))))
      | .sub, .int j => some (.nx, p.2.set i (.sh (.int (x - j))))
      | _, _ => none
    | _ => none
  | .iff c a b, ρ => (evT C c ρ).bind fun t => if t.1 = true then evSs C a t.2 else evSs C b t.2
  | .for tg it body, ρ => (evI C it ρ).bind fun p => forGo (fun x ρ => (bindT tg x ρ).bind fun ρ1 => evSs C body ρ1) p.1 p.2
  | .whl c body, ρ => whlGo (evT C c) (evSs C body) C.fuel ρ
  | .ret e, ρ => (evE C e ρ).bind fun p => (retR p.2 p.1).map fun q => (.rt q.1 q.2, p.2)
  | .retN, ρ => some (.rt false .none, ρ)
  | .pass, ρ => some (.nx, ρ)
  | .bad, _ => none
  | .wipe is, ρ => some (.nx, wipeE ρ is)
def evSs (C : Ctx) : Ss → Env → Option (Fl × Env)
  | .nil, ρ => some (.nx, ρ)
  | .cons s ss, ρ => (evS C s ρ).bind fun p => match p.1 with
    | .nx => evSs C ss p.2
    | .rt b d => some (.rt b d, p.2)
end

/-- the slots at a def's start -/
def argSlots : List Ar → Nat → Env
  | [], _ => []
  | .sh d :: r, k => .sh d :: argSlots r k
  | .io d :: r, k => .ow (some k) d :: argSlots r (k + 1)
def startE (ns : Nat) (as : List Ar) : Env := argSlots as 0 ++ List.replicate (ns - as.length) .un
/-- what the lent objects hold at the end -/
def endOuts (ρ : Env) : List Ar → Nat → Nat → Option (List D)
  | [], _, _ => some []
  | .sh _ :: r, p, k => endOuts ρ r (p + 1) k
  | .io _ :: r, p, k => match ρ.at p with
    | .ow (some k') d => if k' = k then (endOuts ρ r (p + 1) (k + 1)).map (d :: ·) else none
    | _ => none
/-- the defs, to a depth of calls -/
def run (fns : List Fd) (fuel : Nat) : Nat → Nat → List Ar → Option (Bool × D × List D)
  | 0, _, _ => none
  | lvl + 1, f, as => (fns[f]?).bind fun fd => if as.length = fd.np then
      (evSs ⟨run fns fuel lvl, fuel⟩ fd.body (startE fd.ns as)).bind fun p => (endOuts p.2 as 0 0).map fun os => match p.1 with
        | .nx => (false, .none, os)
        | .rt b d => (b, d, os)
    else none
end PI

set_option Elab.async false
set_option linter.all false
set_option maxRecDepth 100000
/-! PIb: how the data of PIa stand in the abstract heap. F: the frozen part of the heap (never changed again). -/
namespace PI
open PySem PySem.Spec L2
open PyProof.Rows hiding St

def keyD : Key → D
  | .inl i => .int i
  | .inr x => .str x
def keysD (k : List Key) : D := .tuple (k.map keyD)

mutual
/-- the value v is the data d, all of it frozen -/
inductive DP (K : PySem.W.Frag) (F : Hp) : V → D → Prop
  | non : DP K F .non .none
  | bl (b : Bool) : DP K F (.bl b) (.bool b)
  | int (i : Int) : DP K F (.int i) (.int i)
  | str (x : Str) : DP K F (.str x) (.str x)
  | lst {a : Addr} {xs : List V} {ds : List D} : F a = some (.lst xs) → DPs K F xs ds → DP K F (.ref a) (.list ds)
  /-- the script -/
  | scr {a : Addr} {xs : List V} {ds : List D} : SqL K F a xs → DPs K F xs ds → DP K F (.ref a) (.dict [(.none, .list ds)])
  | tup {a : Addr} {xs : List V} {ds : List D} : F a = some (.tup xs) → DPs K F xs ds → DP K F (.ref a) (.tuple ds)
  | dk {a : Addr} {kvs : List (Key × V)} {ds : List (D × D)} : F a = some (.dK kvs) → DKs K F kvs ds → DP K F (.ref a) (.dict ds)
  | dt {a : Addr} {kvs : List (List Key × V)} {ds : List (D × D)} : F a = some (.dT kvs) → DTs K F kvs ds → DP K F (.ref a) (.dict ds)
inductive DPs (K : PySem.W.Frag) (F : Hp) : List V → List D → Prop
  | nil : DPs K F [] []
  | cons {v : V} {vs : List V} {d : D} {ds : List D} : DP K F v d → DPs K F vs ds → DPs K F (v :: vs) (d :: ds)
inductive DKs (K : PySem.W.Frag) (F : Hp) : List (Key × V) → List (D × D) → Prop
  | nil : DKs K F [] []
  | cons {k : Key} {v : V} {r : List (Key × V)} {d : D} {ds : List (D × D)} : DP K F v d → DKs K F r ds → DKs K F ((k, v) :: r) ((keyD k, d) :: ds)
inductive DTs (K : PySem.W.Frag) (F : Hp) : List (List Key × V) → List (D × D) → Prop
  | nil : DTs K F [] []
  | cons {k : List Key} {v : V} {r : List (List Key × V)} {d : D} {ds : List (D × D)} : DP K F v d → DTs K F r ds → DTs K F ((k, v) :: r) ((keysD k, d) :: ds)
end

/-- what stands in F stands in G -/
def Sub (F G : Hp) : Prop := ∀ b o, F b = some o → G b = some o
theorem Sub.rfl' {F : Hp} : Sub F F := fun _ _ h => h
theorem Sub.trans {F G J : Hp} (a : Sub F G) (b : Sub G J) : Sub F J := fun c o h => b c o (a c o h)
theorem Sub.rd {F G : Hp} (s : Sub F G) {a : Addr} {u : HO} : Rd F a u → Rd G a u
  | .inl h => .inl (s _ _ h)
  | .inr ⟨o, h⟩ => .inr ⟨o, s _ _ h⟩
theorem Sub.sqL {K : PySem.W.Frag} {F G : Hp} (s : Sub F G) {a : Addr} {xs : List V} : SqL K F a xs → SqL K G a xs
  | .inl h => .inl (s.rd h)
  | .inr h => .inr h
theorem Sub.sqT {K : PySem.W.Frag} {F G : Hp} (s : Sub F G) {a : Addr} {xs : List V} : SqT K F a xs → SqT K G a xs
  | .inl h => .inl (s.rd h)
  | .inr h => .inr h
mutual
theorem DP.sub {K : PySem.W.Frag} {F G : Hp} (s : Sub F G) : ∀ {v : V} {d : D}, DP K F v d → DP K G v d
  | _, _, .non => .non
  | _, _, .bl b => .bl b
  | _, _, .int i => .int i
  | _, _, .str x => .str x
  | _, _, .lst h t => .lst (s _ _ h) (DPs.sub s t)
  | _, _, .scr h t => .scr (s.sqL h) (DPs.sub s t)
  | _, _, .tup h t => .tup (s _ _ h) (DPs.sub s t)
  | _, _, .dk h t => .dk (s _ _ h) (DKs.sub s t)
  | _, _, .dt h t => .dt (s _ _ h) (DTs.sub s t)
theorem DPs.sub {K : PySem.W.Frag} {F G : Hp} (s : Sub F G) : ∀ {v : List V} {d : List D}, DPs K F v d → DPs K G v d
  | _, _, .nil => .nil
  | _, _, .cons h t => .cons (DP.sub s h) (DPs.sub s t)
theorem DKs.sub {K : PySem.W.Frag} {F G : Hp} (s : Sub F G) : ∀ {v : List (Key × V)} {d : List (D × D)}, DKs K F v d → DKs K G v d
  | _, _, .nil => .nil
  | _, _, .cons h t => .cons (DP.sub s h) (DKs.sub s t)
theorem DTs.sub {K : PySem.W.Frag} {F G : Hp} (s : Sub F G) : ∀ {v : List (List Key × V)} {d : List (D × D)}, DTs K F v d → DTs K G v d
  | _, _, .nil => .nil
  | _, _, .cons h t => .cons (DP.sub s h) (DTs.sub s t)
end
section
variable {K : PySem.W.Frag} {F : Hp}
theorem DPs.len : ∀ {vs : List V} {ds : List D}, DPs K F vs ds → vs.length = ds.length
  | _, _, .nil => rfl
  | _, _, .cons _ t => congrArg (· + 1) (DPs.len t)
theorem DPs.app : ∀ {vs ws : List V} {ds es : List D}, DPs K F vs ds → DPs K F ws es → DPs K F (vs ++ ws) (ds ++ es)
  | _, _, _, _, .nil, q => q
  | _, _, _, _, .cons h t, q => .cons h (DPs.app t q)
theorem DPs.get : ∀ {vs : List V} {ds : List D} {i : Nat} {d : D}, DPs K F vs ds → ds[i]? = some d → ∃ v, vs[i]? = some v ∧ DP K F v d
  | _, _, _, _, .nil, e => by simp at e
  | _, _, 0, _, .cons h _, e => by simp at e; subst e; exact ⟨_, rfl, h⟩
  | _, _, i + 1, _, .cons _ t, e => by
    obtain ⟨v, h1, h2⟩ := DPs.get (i := i) t (by simpa using e)
    exact ⟨v, by simpa using h1, h2⟩
theorem DPs.getV : ∀ {vs : List V} {ds : List D} {i : Nat} {v : V}, DPs K F vs ds → vs[i]? = some v → ∃ d, ds[i]? = some d ∧ DP K F v d
  | _, _, _, _, .nil, e => by simp at e
  | _, _, 0, _, .cons h _, e => by simp at e; subst e; exact ⟨_, rfl, h⟩
  | _, _, i + 1, _, .cons _ t, e => by
    obtain ⟨v, h1, h2⟩ := DPs.getV (i := i) t (by simpa using e)
    exact ⟨v, by simpa using h1, h2⟩
theorem DPs.takeN (n : Nat) : ∀ {vs : List V} {ds : List D}, DPs K F vs ds → DPs K F (vs.take n) (ds.take n) := by
  induction n with
  | zero => intro vs ds _; simp only [List.take_zero]; exact .nil
  | succ n ih =>
    intro vs ds h
    cases h with
    | nil => exact .nil
    | cons a b => exact .cons a (ih b)
theorem DPs.dropN (n : Nat) : ∀ {vs : List V} {ds : List D}, DPs K F vs ds → DPs K F (vs.drop n) (ds.drop n) := by
  induction n with
  | zero => intro vs ds h; exact h
  | succ n ih =>
    intro vs ds h
    cases h with
    | nil => exact .nil
    | cons a b => exact ih b
theorem DPs.setN {v : V} {d : D} (hv : DP K F v d) : ∀ {vs : List V} {ds : List D} (i : Nat), DPs K F vs ds → DPs K F (vs.set i v) (ds.set i d)
  | _, _, _, .nil => .nil
  | _, _, 0, .cons _ t => .cons hv t
  | _, _, i + 1, .cons h t => .cons h (DPs.setN hv i t)
theorem DPs.eraseN : ∀ {vs : List V} {ds : List D} (i : Nat), DPs K F vs ds → DPs K F (vs.eraseIdx i) (ds.eraseIdx i)
  | _, _, _, .nil => .nil
  | _, _, 0, .cons _ t => t
  | _, _, i + 1, .cons h t => .cons h (DPs.eraseN i t)
theorem DPs.revN {vs : List V} {ds : List D} (h : DPs K F vs ds) : DPs K F vs.reverse ds.reverse := by
  induction h using DPs.rec (motive_1 := fun _ _ _ => True) (motive_3 := fun _ _ _ => True) (motive_4 := fun _ _ _ => True) with
  | nil => exact .nil
  | cons a b _ ih => rw [List.reverse_cons, List.reverse_cons]; exact ih.app (.cons a .nil)
  | _ => trivial
theorem DPs.of_get : ∀ {vs : List V} {ds : List D}, vs.length = ds.length → (∀ (i : Nat) v d, vs[i]? = some v → ds[i]? = some d → DP K F v d) → DPs K F vs ds
  | [], [], _, _ => .nil
  | v :: vs, d :: ds, hl, h => .cons (h 0 v d rfl rfl) (DPs.of_get (Nat.succ.inj hl) fun i v' d' a b => h (i + 1) v' d' (by simpa using a) (by simpa using b))
theorem DPs.ints : ∀ {vs : List V} {ds : List D} {ns : List Int}, DPs K F vs ds → intsOf ds = some ns → vs = ns.map V.int ∧ ds = ns.map PyData.int
  | _, _, ns, .nil, e => by cases e; exact ⟨rfl, rfl⟩
  | _, _, ns, .cons (d := d) (ds := ds) h t, e => by
    cases d <;> simp only [intsOf, intOf, Option.bind_none, Option.bind_some] at e <;> try cases e
    rename_i i
    cases q : intsOf ds with
    | none => rw [q] at e; cases e
    | some ms =>
      rw [q] at e
      cases e
      obtain ⟨h1, h2⟩ := DPs.ints t q
      cases h
      exact ⟨by rw [h1]; rfl, by rw [h2]; rfl⟩
theorem DPs.bols : ∀ {vs : List V} {ds : List D} {ns : List Bool}, DPs K F vs ds → bolsOf ds = some ns → vs = ns.map V.bl
  | _, _, ns, .nil, e => by cases e; rfl
  | _, _, ns, .cons (d := d) (ds := ds) h t, e => by
    cases d <;> simp only [bolsOf, bolOf, Option.bind_none, Option.bind_some] at e <;> try cases e
    rename_i i
    cases q : bolsOf ds with
    | none => rw [q] at e; cases e
    | some ms =>
      rw [q] at e
      cases e
      have h1 := DPs.bols t q
      cases h
      rw [h1]; rfl
end

/-- the value v, as it stands in H now, is the data d; what is within it is frozen -/
inductive Cn (K : PySem.W.Frag) (F H : Hp) : V → D → Prop
  | non : Cn K F H .non .none
  | bl (b : Bool) : Cn K F H (.bl b) (.bool b)
  | int (i : Int) : Cn K F H (.int i) (.int i)
  | str (x : Str) : Cn K F H (.str x) (.str x)
  | lst {a : Addr} {xs : List V} {ds : List D} : H a = some (.lst xs) → DPs K F xs ds → Cn K F H (.ref a) (.list ds)
  | scr {a : Addr} {xs : List V} {ds : List D} : SqL K H a xs → DPs K F xs ds → Cn K F H (.ref a) (.dict [(.none, .list ds)])
  | tup {a : Addr} {xs : List V} {ds : List D} : F a = some (.tup xs) → DPs K F xs ds → Cn K F H (.ref a) (.tuple ds)
  | dk {a : Addr} {kvs : List (Key × V)} {ds : List (D × D)} : H a = some (.dK kvs) → DKs K F kvs ds → Cn K F H (.ref a) (.dict ds)
  | dt {a : Addr} {kvs : List (List Key × V)} {ds : List (D × D)} : H a = some (.dT kvs) → DTs K F kvs ds → Cn K F H (.ref a) (.dict ds)
/-- the object at a is the content d of a slot's own object -/
inductive Top (K : PySem.W.Frag) (F H : Hp) : Addr → D → Prop
  | lst {a : Addr} {xs : List V} {ds : List D} : H a = some (.lst xs) → DPs K F xs ds → Top K F H a (.list ds)
  | dk {a : Addr} {kvs : List (Key × V)} {ds : List (D × D)} : H a = some (.dK kvs) → DKs K F kvs ds → Top K F H a (.dict ds)
  | dt {a : Addr} {kvs : List (List Key × V)} {ds : List (D × D)} : H a = some (.dT kvs) → DTs K F kvs ds → Top K F H a (.dict ds)
section
variable {K : PySem.W.Frag} {F G H J : Hp}
theorem DP.cn (s : Sub F H) {v : V} {d : D} (h : DP K F v d) : Cn K F H v d := by
  cases h with
  | non => exact .non
  | bl b => exact .bl b
  | int i => exact .int i
  | str x => exact .str x
  | lst h t => exact .lst (s _ _ h) t
  | scr h t => exact .scr (s.sqL h) t
  | tup h t => exact .tup h t
  | dk h t => exact .dk (s _ _ h) t
  | dt h t => exact .dt (s _ _ h) t
theorem Top.cn {a : Addr} {d : D} (h : Top K F H a d) : Cn K F H (.ref a) d := by
  cases h with
  | lst h t => exact .lst h t
  | dk h t => exact .dk h t
  | dt h t => exact .dt h t
theorem Cn.dp (s : Sub F H) {v : V} {d : D} (h : Cn K F H v d) : DP K H v d := by
  cases h with
  | non => exact .non
  | bl b => exact .bl b
  | int i => exact .int i
  | str x => exact .str x
  | lst h t => exact .lst h (t.sub s)
  | scr h t => exact .scr h (t.sub s)
  | tup h t => exact .tup (s _ _ h) (t.sub s)
  | dk h t => exact .dk h (t.sub s)
  | dt h t => exact .dt h (t.sub s)
theorem Top.keep {a : Addr} {d : D} (h : Top K F H a d) (s : Sub F G) (e : ∀ o, H a = some o → J a = some o) : Top K G J a d := by
  cases h with
  | lst h t => exact .lst (e _ h) (t.sub s)
  | dk h t => exact .dk (e _ h) (t.sub s)
  | dt h t => exact .dt (e _ h) (t.sub s)
theorem Top.there {a : Addr} {d : D} (h : Top K F H a d) : H a ≠ none := by
  cases h with
  | lst h t => rw [h]; exact nofun
  | dk h t => rw [h]; exact nofun
  | dt h t => rw [h]; exact nofun
theorem Top.notTup {a : Addr} {d : D} (h : Top K F H a d) (ys : List V) : H a ≠ some (.tup ys) := by
  cases h with
  | lst h t => rw [h]; exact nofun
  | dk h t => rw [h]; exact nofun
  | dt h t => rw [h]; exact nofun
/-- F with the object that stands at a in H -/
def frzA (F H : Hp) (a : Addr) : Hp := fun b => if b = a then H a else F b
theorem frzA_same {a : Addr} : frzA F H a a = H a := by unfold frzA; rw [if_pos rfl]
theorem frzA_ne {a b : Addr} (h : b ≠ a) : frzA F H a b = F b := by unfold frzA; rw [if_neg h]
theorem frzA_sub {a : Addr} (h : F a = none) : Sub F (frzA F H a) := fun b o e => by
  have : b ≠ a := fun q => by subst q; rw [h] at e; cases e
  rw [frzA_ne this]; exact e
theorem frzA_in {a : Addr} (s : Sub F H) : Sub (frzA F H a) H := fun b o e => by
  by_cases q : b = a
  · subst q; rw [frzA_same] at e; exact e
  · rw [frzA_ne q] at e; exact s _ _ e
theorem Top.frz {a : Addr} {d : D} (h : Top K F H a d) (hF : F a = none) : DP K (frzA F H a) (.ref a) d := by
  have s := frzA_sub (H := H) hF
  cases h with
  | lst h t => exact .lst (by rw [frzA_same]; exact h) (t.sub s)
  | dk h t => exact .dk (by rw [frzA_same]; exact h) (t.sub s)
  | dt h t => exact .dt (by rw [frzA_same]; exact h) (t.sub s)
end
end PI

set_option Elab.async false
set_option linter.all false
set_option maxRecDepth 100000
/-! PIc: slots beside the machine's, steps, results; what an expression's reading is. -/
namespace PI
set_option autoImplicit false
open PySem PySem.Spec L2
open PyProof.Rows hiding St

/-- the objects that the slots own -/
def Own (ρ : Env) (σ : St) (b : Addr) : Prop := ∃ (i : Nat) (t : Option Nat) (d : D), ρ[i]? = some (.ow t d) ∧ σ[i]? = some (some (.ref b))
structure Rel (K : PySem.W.Frag) (pa : List Addr) (ρ : Env) (σ : St) (F H : Hp) : Prop where
  len : ρ.length = σ.length
  sub : Sub F H
  sh : ∀ (i : Nat) (d : D), ρ[i]? = some (.sh d) → ∃ v, σ[i]? = some (some v) ∧ DP K F v d
  ow : ∀ (i : Nat) (t : Option Nat) (d : D), ρ[i]? = some (.ow t d) → ∃ a, σ[i]? = some (some (.ref a)) ∧ F a = none ∧ Top K F H a d ∧ ∀ k, t = some k → pa[k]? = some a
  inj : ∀ (i j : Nat) (t u : Option Nat) (d e : D) (a : Addr), ρ[i]? = some (.ow t d) → ρ[j]? = some (.ow u e) → σ[i]? = some (some (.ref a)) → σ[j]? = some (some (.ref a)) → i = j
/-- from one state to a later one, the owned objects alone changed -/
structure Stp (O : Addr → Prop) (F H : Hp) (O' : Addr → Prop) (F' H' : Hp) : Prop where
  mono : Sub F F'
  keep : ∀ b o, H b = some o → ¬ O b → H' b = some o
  newF : ∀ b, F' b ≠ none → F b ≠ none ∨ H b = none ∨ O b ∨ ∃ xs, H b = some (.tup xs)
  newO : ∀ b, O' b → O b ∨ H b = none
  dom : ∀ b, H b ≠ none → H' b ≠ none
theorem Stp.rfl' {O : Addr → Prop} {F H : Hp} : Stp O F H O F H :=
  ⟨Sub.rfl', fun _ _ h _ => h, fun _ h => .inl h, fun _ h => .inl h, fun _ h => h⟩
theorem Stp.trans {O O1 O2 : Addr → Prop} {F F1 F2 H H1 H2 : Hp} (a : Stp O F H O1 F1 H1) (b : Stp O1 F1 H1 O2 F2 H2) : Stp O F H O2 F2 H2 where
  mono := a.mono.trans b.mono
  keep := fun c o h n => b.keep c o (a.keep c o h n) fun q => (a.newO c q).elim n fun z => by rw [z] at h; cases h
  newF := fun c h => by
    rcases b.newF c h with q | q | q | ⟨xs, q⟩
    · exact a.newF c q
    · by_cases z : H c = none
      · exact .inr (.inl z)
      · exact absurd q (a.dom c z)
    · rcases a.newO c q with w | w
      · exact .inr (.inr (.inl w))
      · exact .inr (.inl w)
    · cases z : H c with
      | none => exact .inr (.inl rfl)
      | some o =>
        by_cases ho : O c
        · exact .inr (.inr (.inl ho))
        · have y := a.keep c o z ho
          rw [q] at y
          cases y
          exact .inr (.inr (.inr ⟨xs, rfl⟩))
  newO := fun c h => by
    rcases b.newO c h with q | q
    · exact a.newO c q
    · by_cases z : H c = none
      · exact .inr z
      · exact absurd q (a.dom c z)
  dom := fun c h => b.dom c (a.dom c h)
/-- fewer owned objects at the end -/
theorem Stp.less {O O1 O2 : Addr → Prop} {F F1 H H1 : Hp} (a : Stp O F H O1 F1 H1) (h : ∀ b, O2 b → O1 b) : Stp O F H O2 F1 H1 :=
  ⟨a.mono, a.keep, a.newF, fun b q => a.newO b (h b q), a.dom⟩
theorem Stp.more {O O0 O1 : Addr → Prop} {F F1 H H1 : Hp} (a : Stp O F H O1 F1 H1) (h : ∀ b, O b → O0 b) : Stp O0 F H O1 F1 H1 :=
  ⟨a.mono, fun b o e n => a.keep b o e fun q => n (h b q), fun b q => (a.newF b q).imp id (Or.imp id (Or.imp (h b) id)), fun b q => (a.newO b q).imp (h b) id, a.dom⟩
/-- a new object at p -/
theorem Stp.alloc {O : Addr → Prop} {F H : Hp} {p : Addr} {o : HO} (n : H p = none) : Stp O F H O F (upd H p o) :=
  ⟨Sub.rfl', fun b u h _ => by rw [upd_ne (ne_of_none h n)]; exact h, fun _ h => .inl h, fun _ h => .inl h, fun b h => by
    by_cases e : b = p
    · subst e; rw [upd_same]; exact nofun
    · rw [upd_ne e]; exact h⟩
theorem Sub.alloc {F H : Hp} {p : Addr} {o : HO} (s : Sub F H) (n : H p = none) : Sub F (upd H p o) := fun b u h => by
  have e := s b u h
  rw [upd_ne (ne_of_none e n)]; exact e
theorem Sub.none_of {F H : Hp} {p : Addr} (s : Sub F H) (n : H p = none) : F p = none := by
  cases q : F p with
  | none => rfl
  | some o => rw [s _ _ q] at n; cases n
/-- a new frozen object at p -/
theorem Stp.allocF {O : Addr → Prop} {F H : Hp} {p : Addr} {o : HO} (s : Sub F H) (n : H p = none) : Stp O F H O (upd F p o) (upd H p o) :=
  ⟨fun b u h => by rw [upd_ne (ne_of_none (s _ _ h) n)]; exact h, (Stp.alloc (O := O) (F := F) n).keep, fun b h => by
    by_cases e : b = p
    · subst e; exact .inr (.inl n)
    · rw [upd_ne e] at h; exact .inl h, fun _ h => .inl h, (Stp.alloc (O := O) (F := F) n).dom⟩
theorem Sub.allocF {F H : Hp} {p : Addr} {o : HO} (s : Sub F H) (n : H p = none) : Sub (upd F p o) (upd H p o) := fun b u h => by
  by_cases e : b = p
  · subst e; rw [upd_same] at h ⊢; exact h
  · rw [upd_ne e] at h ⊢; exact s _ _ h
theorem Sub.allocM {F H : Hp} {p : Addr} {o : HO} (s : Sub F H) (n : H p = none) : Sub F (upd F p o) := fun b u h => by
  rw [upd_ne (ne_of_none (s _ _ h) n)]; exact h

section
variable {K : PySem.W.Frag} {pa : List Addr} {ρ : Env} {σ : St} {F H : Hp}
theorem Rel.there (R : Rel K pa ρ σ F H) {b : Addr} (o : Own ρ σ b) : H b ≠ none := by
  obtain ⟨i, t, d, e1, e2⟩ := o
  obtain ⟨a, h1, _, h3, _⟩ := R.ow i t d e1
  rw [e2] at h1
  cases h1
  exact h3.there
theorem Rel.unF (R : Rel K pa ρ σ F H) {b : Addr} (o : Own ρ σ b) : F b = none := by
  obtain ⟨i, t, d, e1, e2⟩ := o
  obtain ⟨a, h1, h2, _, _⟩ := R.ow i t d e1
  rw [e2] at h1
  cases h1
  exact h2
/-- the heap and its frozen part go on; the owned objects stand as they stood -/
theorem Rel.goes (R : Rel K pa ρ σ F H) {F' H' : Hp} (m : Sub F F') (s : Sub F' H') (o1 : ∀ b o, Own ρ σ b → H b = some o → H' b = some o) (o2 : ∀ b, Own ρ σ b → F' b = none) : Rel K pa ρ σ F' H' where
  len := R.len
  sub := s
  sh := fun i d e => let ⟨v, h1, h2⟩ := R.sh i d e; ⟨v, h1, h2.sub m⟩
  ow := fun i t d e => by
    obtain ⟨a, h1, h2, h3, h4⟩ := R.ow i t d e
    have ho : Own ρ σ a := ⟨i, t, d, e, h1⟩
    exact ⟨a, h1, o2 a ho, h3.keep m fun o q => o1 a o ho q, h4⟩
  inj := R.inj
theorem Rel.alloc (R : Rel K pa ρ σ F H) {p : Addr} {o : HO} (n : H p = none) : Rel K pa ρ σ F (upd H p o) :=
  R.goes Sub.rfl' (R.sub.alloc n) (fun b u _ h => by rw [upd_ne (ne_of_none h n)]; exact h) fun b h => R.unF h
theorem Rel.allocF (R : Rel K pa ρ σ F H) {p : Addr} {o : HO} (n : H p = none) : Rel K pa ρ σ (upd F p o) (upd H p o) :=
  R.goes (R.sub.allocM n) (R.sub.allocF n) (fun b u _ h => by rw [upd_ne (ne_of_none h n)]; exact h) fun b h => by
    have : b ≠ p := fun e => by subst e; exact R.there h n
    rw [upd_ne this]; exact R.unF h
theorem at_some {i : Nat} {s : Sl} (h : ρ.at i = s) (hs : s ≠ .un) : ρ[i]? = some s := by
  unfold Env.at at h
  rw [List.getD_eq_getElem?_getD] at h
  cases q : ρ[i]? with
  | none => rw [q] at h; exact absurd h.symm hs
  | some x => rw [q] at h; exact congrArg some h
theorem some_at {i : Nat} {s : Sl} (h : ρ[i]? = some s) : ρ.at i = s := by
  unfold Env.at
  rw [List.getD_eq_getElem?_getD, h]
  rfl

/-- a result stands: H0 is the heap ahead of it -/
def VR (K : PySem.W.Frag) (H0 : Hp) (σ : St) (F H : Hp) (v : V) : RV → Prop
  | .sh d => DP K F v d
  | .fr d => ∃ a, v = .ref a ∧ H0 a = none ∧ F a = none ∧ Top K F H a d
  | .pk i => σ[i]? = some (some v)
/-- a step within an expression: nothing new is owned -/
structure ES (O : Addr → Prop) (F H : Hp) (O' : Addr → Prop) (F' H' : Hp) : Prop where
  stp : Stp O F H O' F' H'
  less : ∀ b, O' b → O b
theorem ES.rfl' {O : Addr → Prop} {F H : Hp} : ES O F H O F H := ⟨Stp.rfl', fun _ h => h⟩
theorem ES.trans {O O1 O2 : Addr → Prop} {F F1 F2 H H1 H2 : Hp} (a : ES O F H O1 F1 H1) (b : ES O1 F1 H1 O2 F2 H2) : ES O F H O2 F2 H2 :=
  ⟨a.stp.trans b.stp, fun c h => a.less c (b.less c h)⟩
theorem ES.alloc {O : Addr → Prop} {F H : Hp} {p : Addr} {o : HO} (n : H p = none) : ES O F H O F (upd H p o) := ⟨.alloc n, fun _ h => h⟩
theorem ES.allocF {O : Addr → Prop} {F H : Hp} {p : Addr} {o : HO} (s : Sub F H) (n : H p = none) : ES O F H O (upd F p o) (upd H p o) := ⟨.allocF s n, fun _ h => h⟩
theorem VR.goes {H0 : Hp} {F' H' : Hp} {v : V} {r : RV} (h : VR K H0 σ F H v r) {ρ0 ρ' : Env} {F0 : Hp} (R0 : Rel K pa ρ0 σ F0 H0) (s0 : ES (Own ρ0 σ) F0 H0 (Own ρ σ) F H) (s : ES (Own ρ σ) F H (Own ρ' σ) F' H') : VR K H0 σ F' H' v r := by
  cases r with
  | sh d => exact DP.sub s.stp.mono h
  | pk i => exact h
  | fr d =>
    obtain ⟨a, rfl, h1, h2, h3⟩ := h
    have n : ¬ Own ρ σ a := fun o => R0.there (s0.less a o) h1
    refine ⟨a, rfl, h1, ?_, h3.keep s.stp.mono fun o q => s.stp.keep a o q n⟩
    cases q : F' a with
    | none => rfl
    | some o =>
      rcases s.stp.newF a (by rw [q]; exact nofun) with z | z | z | ⟨ys, z⟩
      · exact absurd h2 z
      · exact absurd z h3.there
      · exact absurd z n
      · exact absurd z (h3.notTup ys)
theorem VR.back {H0 H1 : Hp} {v : V} {r : RV} (h : VR K H1 σ F H v r) (k : ∀ b, H0 b ≠ none → H1 b ≠ none) : VR K H0 σ F H v r := by
  cases r with
  | sh d => exact h
  | pk i => exact h
  | fr d =>
    obtain ⟨a, e, h1, h2, h3⟩ := h
    exact ⟨a, e, Classical.byContradiction fun z => k a z h1, h2, h3⟩
/-- the content of a result stands in the heap -/
theorem VR.cn {H0 : Hp} {v : V} {r : RV} {d : D} (R : Rel K pa ρ σ F H) (h : VR K H0 σ F H v r) (e : cont ρ r = some d) : Cn K F H v d := by
  cases r with
  | sh d' => cases e; exact DP.cn R.sub h
  | fr d' =>
    cases e
    obtain ⟨a, rfl, _, _, h3⟩ := h
    exact h3.cn
  | pk i =>
    have h' : σ[i]? = some (some v) := h
    cases q : ρ.at i with
    | un => simp [cont, q] at e
    | sh x =>
      simp [cont, q] at e
      subst e
      obtain ⟨w, h1, h2⟩ := R.sh i x (at_some q nofun)
      rw [h'] at h1
      cases h1
      exact h2.cn R.sub
    | ow t x =>
      simp [cont, q] at e
      subst e
      obtain ⟨a, h1, _, h3, _⟩ := R.ow i t x (at_some q nofun)
      rw [h'] at h1
      cases h1
      exact h3.cn
theorem getE_set_self {i : Nat} {s : Sl} (h : i < ρ.length) : (ρ.set i s)[i]? = some s := by simp [h]
/-- a slot's own object becomes data -/
theorem Rel.freeze (R : Rel K pa ρ σ F H) {i : Nat} {t : Option Nat} {d : D} (e : ρ[i]? = some (.ow t d)) {v : V} (hv : σ[i]? = some (some v)) :
    ∃ F', Rel K pa (ρ.set i (.sh d)) σ F' H ∧ DP K F' v d ∧ ES (Own ρ σ) F H (Own (ρ.set i (.sh d)) σ) F' H := by
  obtain ⟨a, h1, h2, h3, _⟩ := R.ow i t d e
  rw [hv] at h1
  cases h1
  have hi : i < ρ.length := (List.getElem?_eq_some_iff.mp e).1
  have hs := frzA_sub (H := H) h2
  have back : ∀ (j : Nat) (u : Option Nat) (x : D), (ρ.set i (.sh d))[j]? = some (.ow u x) → j ≠ i ∧ ρ[j]? = some (.ow u x) := fun j u x q => by
    by_cases hj : j = i
    · subst hj; rw [getE_set_self hi] at q; cases q
    · rw [List.getElem?_set_ne (Ne.symm hj)] at q; exact ⟨hj, q⟩
  refine ⟨frzA F H a, ⟨by simpa using R.len, frzA_in R.sub, fun j x q => ?_, fun j u x q => ?_, fun j k u w x y b q1 q2 => ?_⟩, h3.frz h2, ⟨⟨hs, fun b o q _ => q, fun b q => ?_, fun b q => ?_, fun _ q => q⟩, fun b q => ?_⟩⟩
  · by_cases hj : j = i
    · subst hj
      rw [getE_set_self hi] at q
      cases q
      exact ⟨.ref a, hv, h3.frz h2⟩
    · rw [List.getElem?_set_ne (Ne.symm hj)] at q
      obtain ⟨w, g1, g2⟩ := R.sh j x q
      exact ⟨w, g1, g2.sub hs⟩
  · obtain ⟨hj, q'⟩ := back j u x q
    obtain ⟨b, g1, g2, g3, g4⟩ := R.ow j u x q'
    have hb : b ≠ a := fun z => by subst z; exact hj (R.inj j i u t x d b q' e g1 hv)
    exact ⟨b, g1, by rw [frzA_ne hb]; exact g2, g3.keep hs fun o z => z, g4⟩
  · exact R.inj j k u w x y b (back j u x q1).2 (back k w y q2).2
  · by_cases hb : b = a
    · subst hb
      exact .inr (.inr (.inl ⟨i, t, d, e, hv⟩))
    · rw [frzA_ne hb] at q
      exact .inl q
  · obtain ⟨j, u, x, q1, q2⟩ := q
    exact .inl ⟨j, u, x, (back j u x q1).2, q2⟩
  · obtain ⟨j, u, x, q1, q2⟩ := q
    exact ⟨j, u, x, (back j u x q1).2, q2⟩
/-- a fresh object becomes data -/
theorem Rel.freezeNew (R : Rel K pa ρ σ F H) {ρ0 : Env} {F0 H0 : Hp} (R0 : Rel K pa ρ0 σ F0 H0) (s0 : ES (Own ρ0 σ) F0 H0 (Own ρ σ) F H) {a : Addr} {d : D} (h1 : H0 a = none) (h2 : F a = none) (h3 : Top K F H a d) :
    ∃ F', Rel K pa ρ σ F' H ∧ DP K F' (.ref a) d ∧ ES (Own ρ0 σ) F0 H0 (Own ρ σ) F' H := by
  have n : ∀ b, Own ρ σ b → b ≠ a := fun b o z => by subst z; exact R0.there (s0.less b o) h1
  have hs := frzA_sub (H := H) h2
  refine ⟨frzA F H a, R.goes hs (frzA_in R.sub) (fun _ _ _ q => q) fun b o => by rw [frzA_ne (n b o)]; exact R.unF o, h3.frz h2,
    ⟨⟨s0.stp.mono.trans hs, s0.stp.keep, fun b q => ?_, s0.stp.newO, s0.stp.dom⟩, s0.less⟩⟩
  by_cases hb : b = a
  · subst hb; exact .inr (.inl h1)
  · rw [frzA_ne hb] at q; exact s0.stp.newF b q
/-- a result is made data -/
theorem VR.frz {ρ0 : Env} {F0 H0 : Hp} {v : V} {r : RV} {d : D} {ρ' : Env} (R : Rel K pa ρ σ F H) (R0 : Rel K pa ρ0 σ F0 H0) (s0 : ES (Own ρ0 σ) F0 H0 (Own ρ σ) F H) (h : VR K H0 σ F H v r) (e : frz ρ r = some (d, ρ')) :
    ∃ F', Rel K pa ρ' σ F' H ∧ DP K F' v d ∧ ES (Own ρ0 σ) F0 H0 (Own ρ' σ) F' H ∧ Sub F F' := by
  cases r with
  | sh x =>
    cases e
    exact ⟨F, R, h, s0, Sub.rfl'⟩
  | fr x =>
    cases e
    obtain ⟨a, rfl, h1, h2, h3⟩ := h
    have hs := frzA_sub (H := H) h2
    obtain ⟨F', g1, g2, g3⟩ := R.freezeNew R0 s0 h1 h2 h3
    refine ⟨frzA F H a, ?_⟩
    have n : ∀ b, Own ρ σ b → b ≠ a := fun b o z => by subst z; exact R0.there (s0.less b o) h1
    exact ⟨R.goes hs (frzA_in R.sub) (fun _ _ _ q => q) fun b o => by rw [frzA_ne (n b o)]; exact R.unF o, h3.frz h2,
      ⟨⟨s0.stp.mono.trans hs, s0.stp.keep, fun b q => by
        by_cases hb : b = a
        · subst hb; exact .inr (.inl h1)
        · rw [frzA_ne hb] at q; exact s0.stp.newF b q, s0.stp.newO, s0.stp.dom⟩, s0.less⟩, hs⟩
  | pk i =>
    have h' : σ[i]? = some (some v) := h
    cases q : ρ.at i with
    | un => simp [PI.frz, q] at e
    | sh x =>
      simp [PI.frz, q] at e
      obtain ⟨rfl, rfl⟩ := e
      obtain ⟨w, h1, h2⟩ := R.sh i x (at_some q nofun)
      rw [h'] at h1
      cases h1
      exact ⟨F, R, h2, s0, Sub.rfl'⟩
    | ow t x =>
      cases t with
      | some k => simp [PI.frz, q] at e
      | none =>
        simp [PI.frz, q] at e
        obtain ⟨rfl, rfl⟩ := e
        obtain ⟨F', g1, g2, g3⟩ := R.freeze (at_some q nofun) h'
        exact ⟨F', g1, g2, s0.trans g3, g3.stp.mono⟩
end

/-! ### readings -/
section
variable (K : PySem.W.Frag) (pa : List Addr)
/-- an expression that does as ev does -/
def tE (ev : Env → Option (RV × Env)) : TE := fun σ H Q => ∃ F ρ r ρ', Rel K pa ρ σ F H ∧ ev ρ = some (r, ρ') ∧
  ∀ v F' H', Rel K pa ρ' σ F' H' → ES (Own ρ σ) F H (Own ρ' σ) F' H' → VR K H σ F' H' v r → Q v H'
def tT (ev : Env → Option (Bool × Env)) : TT := fun σ H Q => ∃ F ρ t ρ', Rel K pa ρ σ F H ∧ ev ρ = some (t, ρ') ∧
  ∀ F' H', Rel K pa ρ' σ F' H' → ES (Own ρ σ) F H (Own ρ' σ) F' H' → Q t H'
/-- arguments, each made data -/
def tL (ev : Env → Option (List D × Env)) : TA := fun σ H Q => ∃ F ρ ds ρ', Rel K pa ρ σ F H ∧ ev ρ = some (ds, ρ') ∧
  ∀ vs F' H', Rel K pa ρ' σ F' H' → ES (Own ρ σ) F H (Own ρ' σ) F' H' → DPs K F' vs ds → Q vs H'
inductive VRs (K : PySem.W.Frag) (H0 : Hp) (σ : St) (F H : Hp) : List V → List RV → Prop
  | nil : VRs K H0 σ F H [] []
  | cons {v : V} {vs : List V} {r : RV} {rs : List RV} : VR K H0 σ F H v r → VRs K H0 σ F H vs rs → VRs K H0 σ F H (v :: vs) (r :: rs)
def tR (ev : Env → Option (List RV × Env)) : TA := fun σ H Q => ∃ F ρ rs ρ', Rel K pa ρ σ F H ∧ ev ρ = some (rs, ρ') ∧
  ∀ vs F' H', Rel K pa ρ' σ F' H' → ES (Own ρ σ) F H (Own ρ' σ) F' H' → VRs K H σ F' H' vs rs → Q vs H'
inductive Cns (K : PySem.W.Frag) (F H : Hp) : List V → List D → Prop
  | nil : Cns K F H [] []
  | cons {v : V} {vs : List V} {d : D} {ds : List D} : Cn K F H v d → Cns K F H vs ds → Cns K F H (v :: vs) (d :: ds)
end
section
variable {K : PySem.W.Frag} {pa : List Addr} {ρ : Env} {σ : St} {F H : Hp}
theorem VRs.cns {H0 : Hp} (R : Rel K pa ρ σ F H) : ∀ {vs : List V} {rs : List RV} {ds : List D}, VRs K H0 σ F H vs rs → conts ρ rs = some ds → Cns K F H vs ds
  | _, _, _, .nil, e => by cases e; exact .nil
  | _, _, ds, .cons (r := r) (rs := rs) h t, e => by
    simp only [conts] at e
    cases q : cont ρ r with
    | none => rw [q] at e; cases e
    | some d =>
      rw [q] at e
      cases q2 : conts ρ rs with
      | none => rw [q2] at e; cases e
      | some es =>
        rw [q2] at e
        cases e
        exact .cons (h.cn R q) (VRs.cns R t q2)
theorem VRs.goes {H0 : Hp} {F' H' : Hp} {ρ0 ρ' : Env} {F0 : Hp} (R0 : Rel K pa ρ0 σ F0 H0) (s0 : ES (Own ρ0 σ) F0 H0 (Own ρ σ) F H) (s : ES (Own ρ σ) F H (Own ρ' σ) F' H') : ∀ {vs : List V} {rs : List RV}, VRs K H0 σ F H vs rs → VRs K H0 σ F' H' vs rs
  | _, _, .nil => .nil
  | _, _, .cons h t => .cons (h.goes R0 s0 s) (VRs.goes R0 s0 s t)
theorem VRs.back {H0 H1 : Hp} (k : ∀ b, H0 b ≠ none → H1 b ≠ none) : ∀ {vs : List V} {rs : List RV}, VRs K H1 σ F H vs rs → VRs K H0 σ F H vs rs
  | _, _, .nil => .nil
  | _, _, .cons h t => .cons (h.back k) (VRs.back k t)
/-- the frozen part with more tuples -/
structure GF (F H F' : Hp) : Prop where
  mono : Sub F F'
  sub : Sub F' H
  tups : ∀ b, F' b ≠ none → F b ≠ none ∨ ∃ xs, H b = some (.tup xs)
theorem GF.rfl' (s : Sub F H) : GF F H F := ⟨Sub.rfl', s, fun _ h => .inl h⟩
/-- what an operation gives: data, or a new object -/
def Gives (K : PySem.W.Frag) (F H : Hp) (r : RV) (Q : VK) : Prop :=
  match r with
  | .sh d => ∀ F', GF F H F' → (∀ v, DP K F' v d → Q v H) ∧ ∀ v p o, H p = none → DP K (upd F' p o) v d → Q v (upd H p o)
  | .fr d => ∀ F', GF F H F' → ∀ p o, H p = none → Top K F' (upd H p o) p d → Q (.ref p) (upd H p o)
  | .pk _ => False
theorem g1 {Q : VK} {d : D} (g : Gives K F H (.sh d) Q) (s : Sub F H) : ∀ v, DP K F v d → Q v H := (g F (.rfl' s)).1
theorem g2 {Q : VK} {d : D} (g : Gives K F H (.sh d) Q) (s : Sub F H) : ∀ v p o, H p = none → DP K (upd F p o) v d → Q v (upd H p o) := (g F (.rfl' s)).2
theorem g3 {Q : VK} {d : D} (g : Gives K F H (.fr d) Q) (s : Sub F H) : ∀ p o, H p = none → Top K F (upd H p o) p d → Q (.ref p) (upd H p o) := g F (.rfl' s)
end

theorem pe_imp {X : Cx} {e : Expr} {t t' : TE} (h : PE X e t) (m : ∀ σ H Q, t' σ H Q → t σ H Q) : PE X e t' := ⟨fun pn s σ H Q I q => h.run pn s σ H Q I (m _ _ _ q)⟩
theorem pt_imp {X : Cx} {e : Expr} {t t' : TT} (h : PT X e t) (m : ∀ σ H Q, t' σ H Q → t σ H Q) : PT X e t' := ⟨fun pn s σ H Q I q => h.run pn s σ H Q I (m _ _ _ q)⟩
theorem pw_imp {X : Cx} {e : Expr} {t t' : TT} (h : PW X e t) (m : ∀ σ H Q, t' σ H Q → t σ H Q) : PW X e t' := ⟨fun wh pn s σ H Q I q => h.run wh pn s σ H Q I (m _ _ _ q)⟩
theorem pa_imp {X : Cx} {es : List Expr} {t t' : TA} (h : PA X es t) (m : ∀ σ H Q, t' σ H Q → t σ H Q) : PA X es t' := ⟨fun ps pn s σ H Q I q => h.run ps pn s σ H Q I (m _ _ _ q)⟩
theorem ps_imp {X : Cx} {st : Stmt} {t t' : TS} (h : PS X st t) (m : ∀ D σ H, t' D σ H → t D σ H) : PS X st t' := ⟨fun pn s σ H D I q => h.run pn s σ H D I (m _ _ _ q)⟩
theorem pss_imp {X : Cx} {st : List Stmt} {t t' : TS} (h : PSs X st t) (m : ∀ D σ H, t' D σ H → t D σ H) : PSs X st t' := ⟨fun pn s σ H D I q => h.run pn s σ H D I (m _ _ _ q)⟩
end PI

set_option Elab.async false
set_option linter.all false
set_option maxRecDepth 100000
set_option maxHeartbeats 4000000
/-! PId: operators and comparisons by their data. -/
namespace PI
set_option autoImplicit false
open PySem PySem.Spec L2
open PyProof.Rows hiding St

theorem LIM_eq : LIM = sizeLine := by rw [sizeLine_eq]; rfl

def opN : Op2 → Operator
  | .add => .Add | .sub => .Sub | .mul => .Mult | .fdiv => .FloorDiv | .mod => .Mod | .pow => .Pow | .shl => .LShift | .shr => .RShift | .band => .BitAnd
def rO (K : PySem.W.Frag) (o : Op2) : R2 := fun x y H Q => ∃ F dx dy r, Sub F H ∧ Cn K F H x dx ∧ Cn K F H y dy ∧ op2Ev o dx dy = some r ∧ Gives K F H r Q

section
variable {X : Cx} {K : PySem.W.Frag} {F H : Hp}
theorem gives_int {i : Int} {Q : VK} (g : Gives K F H (.sh (.int i)) Q) (sb : Sub F H) : Q (.int i) H := g1 g sb _ (.int i)
theorem gives_bool {i : Bool} {Q : VK} (g : Gives K F H (.sh (.bool i)) Q) (sb : Sub F H) : Q (.bl i) H := g1 g sb _ (.bl i)
theorem DPs.repl {vs : List V} {ds : List D} (h : DPs K F vs ds) : ∀ n : Nat, DPs K F (List.replicate n vs).flatten (List.replicate n ds).flatten
  | 0 => .nil
  | n + 1 => by
    rw [List.replicate_succ, List.replicate_succ, List.flatten_cons, List.flatten_cons]
    exact h.app (h.repl n)
theorem small64b {i : Int} (h : i.natAbs < 18446744073709551616) : -(2 ^ 64) < i ∧ i < 2 ^ 64 := by
  have : (2 : Int) ^ 64 = 18446744073709551616 := by decide
  omega

theorem or_ops (o : Op2) : OpR X (binaryOp (opN o)) (rO X.K o) := by
  intro pn s σ H x y v u Q I rx ry h
  obtain ⟨F, dx, dy, r, sb, hx, hy, e, g⟩ := h
  have hL := LIM_eq
  cases o with
  | add =>
    cases hx <;> cases hy <;> simp only [op2Ev] at e <;> try (cases e; done)
    · cases e
      exact op_add pn s σ H _ _ v u Q I rx ry ⟨_, _, rfl, rfl, gives_int g sb⟩
    · rename_i a xs ds h1 h2 b ys es h3 h4
      split at e <;> cases e
      rename_i hl
      refine op_cat pn s σ H _ _ v u Q I rx ry ⟨a, b, xs, ys, rfl, rfl, h1, h3, ?_, fun p np => g3 g sb p _ np (.lst upd_same (h2.app h4))⟩
      rw [h2.len, h4.len, ← hL]; exact hl
    · rename_i a xs ds h1 h2 b ys es h3 h4
      split at e <;> cases e
      rename_i hl
      refine op_catA pn s σ H _ _ v u Q I rx ry ⟨a, b, xs, ys, rfl, rfl, SqT.of (sb _ _ h1), SqT.of (sb _ _ h3), ?_, fun z => ?_, fun _ z => ?_, fun _ _ p np => ?_⟩
      · rw [h2.len, h4.len, ← hL]; exact hl
      · subst z
        cases h2
        exact g1 g sb _ (.tup h3 h4)
      · subst z
        cases h4
        rw [List.append_nil] at g
        exact g1 g sb _ (.tup h1 h2)
      · refine g2 g sb _ p _ np (.tup upd_same ((h2.app h4).sub ?_))
        intro b' o' q
        exact Sub.allocM sb np b' o' q
  | sub =>
    cases hx <;> cases hy <;> simp only [op2Ev] at e <;> try (cases e; done)
    cases e
    exact op_sub pn s σ H _ _ v u Q I rx ry ⟨_, _, rfl, rfl, gives_int g sb⟩
  | mul =>
    cases hx <;> cases hy <;> simp only [op2Ev] at e <;> try (cases e; done)
    · split at e <;> cases e
      rename_i hc
      rcases hc with (hc | hc) | hc
      · exact op_mul pn s σ H _ _ v u Q I rx ry ⟨_, _, rfl, rfl, .inl (small64b hc), gives_int g sb⟩
      · exact op_mul pn s σ H _ _ v u Q I rx ry ⟨_, _, rfl, rfl, .inr (small64b hc), gives_int g sb⟩
      · exact op_mulW pn s σ H _ _ v u Q I rx ry ⟨_, _, rfl, rfl, hc, gives_int g sb⟩
    · rename_i a xs ds h1 h2 j
      split at e <;> cases e
      rename_i hc
      have hz : xs.length * j.toNat ≤ sizeLine := by rw [h2.len, ← hL]; exact hc.2
      exact op_rep pn s σ H _ _ v u Q I rx ry ⟨a, j, xs, rfl, rfl, h1, by omega, by omega, hz, fun p np => g3 g sb p _ np (.lst upd_same (h2.repl _))⟩
  | fdiv =>
    cases hx <;> cases hy <;> simp only [op2Ev] at e <;> try (cases e; done)
    split at e <;> cases e
    rename_i hc
    rcases hc with hc | hc
    · exact op_fdivN pn s σ H _ _ v u Q I rx ry ⟨_, _, rfl, rfl, hc, gives_int g sb⟩
    · refine op_fdivW pn s σ H _ _ v u Q I rx ry ⟨_, _, rfl, rfl, hc, ?_⟩
      have q := gives_int g sb
      rw [Int.fdiv_eq_ediv_of_nonneg _ (by omega)] at q
      exact q
  | mod =>
    cases hx <;> cases hy <;> simp only [op2Ev] at e <;> try (cases e; done)
    split at e <;> cases e
    rename_i hc
    exact op_modN pn s σ H _ _ v u Q I rx ry ⟨_, _, rfl, rfl, hc, gives_int g sb⟩
  | pow =>
    cases hx <;> cases hy <;> simp only [op2Ev] at e <;> try (cases e; done)
    split at e <;> cases e
    rename_i hc
    exact op_pow pn s σ H _ _ v u Q I rx ry ⟨_, _, rfl, rfl, hc, gives_int g sb⟩
  | shl =>
    cases hx <;> cases hy <;> simp only [op2Ev] at e <;> try (cases e; done)
    split at e <;> cases e
    rename_i hc
    exact op_shl pn s σ H _ _ v u Q I rx ry ⟨_, _, rfl, rfl, hc, gives_int g sb⟩
  | shr =>
    cases hx <;> cases hy <;> simp only [op2Ev] at e <;> try (cases e; done)
    split at e <;> cases e
    rename_i hc
    exact op_shr pn s σ H _ _ v u Q I rx ry ⟨_, _, rfl, rfl, hc, gives_int g sb⟩
  | band =>
    cases hx <;> cases hy <;> simp only [op2Ev] at e <;> try (cases e; done)
    cases e
    exact op_and pn s σ H _ _ v u Q I rx ry ⟨_, _, rfl, rfl, gives_int g sb⟩
end
end PI

set_option Elab.async false
set_option linter.all false
set_option maxRecDepth 100000
set_option maxHeartbeats 4000000
/-! PIe: keys, what a dict holds, comparisons by their data. -/
namespace PI
set_option autoImplicit false
open PySem PySem.Spec L2
open PyProof.Rows hiding St

section
variable {K : PySem.W.Frag} {F H : Hp}
mutual
theorem DP.toDp : ∀ {v : V} {d : D}, DP K F v d → d.plain = true → Dp K F v d
  | _, _, .non, _ => .non
  | _, _, .bl b, _ => .bl b
  | _, _, .int i, _ => .int i
  | _, _, .str x, _ => .str x
  | _, _, .lst h t, p => .lst (SqL.of h) (DPs.toDp t (by simpa [PyData.plain] using p))
  | _, _, .tup h t, p => .tup (SqT.of h) (DPs.toDp t (by simpa [PyData.plain] using p))
  | _, _, .scr _ _, p => by simp [PyData.plain] at p
  | _, _, .dk _ _, p => by simp [PyData.plain] at p
  | _, _, .dt _ _, p => by simp [PyData.plain] at p
theorem DPs.toDp : ∀ {v : List V} {d : List D}, DPs K F v d → PyData.plainAll d = true → DpAll K F v d
  | _, _, .nil, _ => .nil
  | _, _, .cons h t, p => by
    simp only [PyData.plainAll, Bool.and_eq_true] at p
    exact .cons (DP.toDp h p.1) (DPs.toDp t p.2)
end
theorem okD_plain {d : D} (h : okD d = true) : d.plain = true := by
  unfold okD at h; simp only [Bool.and_eq_true] at h; exact h.1
theorem okD_depth {d : D} (h : okD d = true) : d.depth ≤ 16 := by
  unfold okD at h; simp only [Bool.and_eq_true, decide_eq_true_eq] at h; exact h.2
theorem Cn.reads {X : Cx} {pn : List (Addr × Obj)} {σ : St} {s : Shared} (I : Inv X pn σ H s) (sb : Sub F H) {v : V} {u : Value} {d : D} (h : Cn X.K F H v d) (p : d.plain = true) (r : RelV v u) : ∃ as, Reads s.heap u d as :=
  Dp.reads I d v u ((h.dp sb).toDp p) r

theorem flat_key {v : V} {d : D} (h : DP K F v d) (f : flatK d = true) : ∃ k : Key, v = kV k ∧ d = keyD k := by
  cases h with
  | int i => exact ⟨.inl i, rfl, rfl⟩
  | str x => exact ⟨.inr x, rfl, rfl⟩
  | _ => cases f
theorem flat_keys : ∀ {vs : List V} {ds : List D}, DPs K F vs ds → ds.all flatK = true → ∃ ks : List Key, vs = ks.map kV ∧ ds = ks.map keyD
  | _, _, .nil, _ => ⟨[], rfl, rfl⟩
  | _, _, .cons h t, f => by
    simp only [List.all_cons, Bool.and_eq_true] at f
    obtain ⟨k, e1, e2⟩ := flat_key h f.1
    obtain ⟨ks, e3, e4⟩ := flat_keys t f.2
    exact ⟨k :: ks, by rw [e1, e3]; rfl, by rw [e2, e4]; rfl⟩
theorem tup_key {v : V} {d : D} (h : DP K F v d) (f : tupK d = true) : ∃ (b : Addr) (ks : List Key), v = .ref b ∧ F b = some (.tup (ks.map kV)) ∧ d = keysD ks := by
  cases h with
  | tup h t =>
    obtain ⟨ks, e1, e2⟩ := flat_keys t f
    exact ⟨_, ks, rfl, by rw [h, e1], by rw [e2]; rfl⟩
  | _ => cases f
theorem keyD_eqv (a b : Key) : PyData.eqv (keyD a) (keyD b) = decide (a = b) := by
  cases a <;> cases b
  · rename_i i j
    simp only [keyD, PyData.eqv]
    rw [key_ll]
  · simp only [keyD, PyData.eqv]; rw [key_lr]
  · simp only [keyD, PyData.eqv]; rw [key_rl]
  · rename_i i j
    simp only [keyD, PyData.eqv]
    rw [key_rr]
    by_cases h : i = j <;> simp [h]
theorem keysD_eqvAll : ∀ a b : List Key, PyData.eqvAll (a.map keyD) (b.map keyD) = decide (a = b)
  | [], [] => rfl
  | [], b :: bs => by simp [PyData.eqvAll]
  | a :: as, [] => by simp [PyData.eqvAll]
  | a :: as, b :: bs => by
    rw [List.map_cons, List.map_cons, PyData.eqvAll, keyD_eqv, keysD_eqvAll as bs]
    by_cases h : a = b <;> by_cases h' : as = bs <;> simp [h, h']
theorem keysD_eqv (a b : List Key) : PyData.eqv (keysD a) (keysD b) = decide (a = b) := by
  unfold keysD
  rw [PyData.eqv, keysD_eqvAll]
theorem flatK_keyD (k : Key) : flatK (keyD k) = true := by cases k <;> rfl
theorem tupK_keysD (k : List Key) : tupK (keysD k) = true := by
  unfold keysD tupK
  simp only [List.all_map, List.all_eq_true]
  intro x _
  exact flatK_keyD x

theorem DKs.val (k : Key) : ∀ {kvs : List (Key × V)} {ds : List (D × D)}, DKs K F kvs ds → (∃ v e, valV kvs k = some v ∧ dget ds (keyD k) = some e ∧ DP K F v e) ∨ (valV kvs k = none ∧ dget ds (keyD k) = none)
  | _, _, .nil => .inr ⟨rfl, rfl⟩
  | _, _, .cons (k := k') (v := v) (r := r) (d := d) (ds := ds) h t => by
    by_cases e : k' = k
    · subst e
      exact .inl ⟨v, d, by simp [valV], by simp [dget, keyD_eqv], h⟩
    · rcases DKs.val k t with ⟨w, x, h1, h2, h3⟩ | ⟨h1, h2⟩
      · exact .inl ⟨w, x, by simpa [valV, e] using h1, by simpa [dget, keyD_eqv, e] using h2, h3⟩
      · exact .inr ⟨by simpa [valV, e] using h1, by simpa [dget, keyD_eqv, e] using h2⟩
theorem DTs.val (k : List Key) : ∀ {kvs : List (List Key × V)} {ds : List (D × D)}, DTs K F kvs ds → (∃ v e, valV kvs k = some v ∧ dget ds (keysD k) = some e ∧ DP K F v e) ∨ (valV kvs k = none ∧ dget ds (keysD k) = none)
  | _, _, .nil => .inr ⟨rfl, rfl⟩
  | _, _, .cons (k := k') (v := v) (r := r) (d := d) (ds := ds) h t => by
    by_cases e : k' = k
    · subst e
      exact .inl ⟨v, d, by simp [valV], by simp [dget, keysD_eqv], h⟩
    · rcases DTs.val k t with ⟨w, x, h1, h2, h3⟩ | ⟨h1, h2⟩
      · exact .inl ⟨w, x, by simpa [valV, e] using h1, by simpa [dget, keysD_eqv, e] using h2, h3⟩
      · exact .inr ⟨by simpa [valV, e] using h1, by simpa [dget, keysD_eqv, e] using h2⟩
theorem DKs.len : ∀ {kvs : List (Key × V)} {ds : List (D × D)}, DKs K F kvs ds → kvs.length = ds.length
  | _, _, .nil => rfl
  | _, _, .cons _ t => congrArg (· + 1) (DKs.len t)
theorem DTs.len : ∀ {kvs : List (List Key × V)} {ds : List (D × D)}, DTs K F kvs ds → kvs.length = ds.length
  | _, _, .nil => rfl
  | _, _, .cons _ t => congrArg (· + 1) (DTs.len t)
theorem DKs.not_tup : ∀ {kvs : List (Key × V)} {ds : List (D × D)}, DKs K F kvs ds → (ds.all fun p => tupK p.1) = true → kvs = [] ∧ ds = []
  | _, _, .nil, _ => ⟨rfl, rfl⟩
  | _, _, .cons (k := k) _ _, f => by
    simp only [List.all_cons, Bool.and_eq_true] at f
    cases k <;> cases f.1
theorem DTs.not_flat : ∀ {kvs : List (List Key × V)} {ds : List (D × D)}, DTs K F kvs ds → (ds.all fun p => flatK p.1) = true → kvs = [] ∧ ds = []
  | _, _, .nil, _ => ⟨rfl, rfl⟩
  | _, _, .cons (k := k) _ _, f => by
    simp only [List.all_cons, Bool.and_eq_true] at f
    cases f.1
/-- an empty dict is one of either kind -/
theorem emptyKT {P : Program} {w : World} {h : Heap} {a : Addr} (o : ObjOk P w H h a (.dK [])) : h.DictOfH (tupleKind (mixKind P w)) a [] ∧ (a == sysModules) = false := by
  obtain ⟨_, hs, vs, r, ob, es, ep, h1, h2, h3, _, h5, _⟩ := o
  cases r
  refine ⟨⟨ob, es, ep, h1, h2, h3, ?_, fun x hx => absurd hx (by simp), by simp⟩, hs⟩
  have : es.toList = [] := by
    cases q : es.toList with
    | nil => rfl
    | cons x y => rw [q] at h5; cases h5
  rw [this]; rfl
theorem emptyTK {P : Program} {w : World} {h : Heap} {a : Addr} (o : ObjOk P w H h a (.dT [])) : h.DictOf (mixKind P w) a [] ∧ (a == sysModules) = false := by
  obtain ⟨_, hs, xs, r, ob, es, ep, h1, h2, h3, h4, _⟩ := o
  cases r
  have he : es.toList = [] := h4
  refine ⟨⟨ob, es, ep, h1, h2, h3, ?_, ?_, by simp⟩, hs⟩
  · have hz : es = #[] := by
      cases es
      simpa using he
    subst hz
    intro e he'
    simp at he'
  · rw [he]; exact .nil
end

section
variable {X : Cx} {F H : Hp} {pn : List (Addr × Obj)} {σ : St} {s : Shared}
/-- k in d -/
theorem din (hu : X.A.units + 1 < cLine) (I : Inv X pn σ H s) (sb : Sub F H) {a : Addr} {ds : List (D × D)} {y : V} {u : Value} {k : D} (hd : Cn X.K F H (.ref a) (.dict ds)) (hy : Cn X.K F H y k) (ok : keyOk ds k = true) (ry : RelV y u) {Q : Value → Shared → Prop}
    (h : ∀ s', Inv X pn σ H s' → Q (.bool (dget ds k).isSome) s') : wpAny (model X.prog X.w) X.A (compareOp .In u (.ref a)) Q X.xe s := by
  have hk := hy.dp sb
  unfold keyOk at ok
  rw [Bool.or_eq_true, Bool.and_eq_true, Bool.and_eq_true] at ok
  rcases ok with ⟨f1, f2⟩ | ⟨f1, f2⟩
  · obtain ⟨q, e1, e2⟩ := flat_key hk f1
    subst e1 e2
    cases hd with
    | scr _ _ => simp [flatK] at f2
    | dk g t =>
      refine d_in (o := valV _ q) hu I (.k g) ry fun s' I' => ?_
      rcases t.val q with ⟨v, e, h1, h2, _⟩ | ⟨h1, h2⟩ <;> (have z := h s' I'; rw [h2] at z; rw [h1]; exact z)
    | dt g t =>
      obtain ⟨e1, e2⟩ := t.not_flat f2
      subst e1 e2
      obtain ⟨m, hs⟩ := emptyTK (I.hok a _ g)
      exact wpAny_in_of (kV_is ry) hs m.mapOf (h _ (I.tok _))
  · obtain ⟨b, q, e1, e2, e3⟩ := tup_key hk f1
    subst e1 e3
    cases hd with
    | scr _ _ => simp [tupK] at f2
    | dk g t =>
      obtain ⟨e1, e4⟩ := t.not_tup f2
      subst e1 e4
      obtain ⟨m, hs⟩ := emptyKT (I.hok a _ g)
      cases (show u = Value.ref b from ry)
      exact wpAny_in_heap (tupleKind_room_in1 hu) (key_of I.hok e2) hs m (h _ (I.tok _))
    | dt g t =>
      refine d_in (o := valV _ q) hu I (.t g e2) ry fun s' I' => ?_
      rcases t.val q with ⟨v, e, h1, h2, _⟩ | ⟨h1, h2⟩ <;> (have z := h s' I'; rw [h2] at z; rw [h1]; exact z)
theorem dnotin (hu : X.A.units + 1 < cLine) (I : Inv X pn σ H s) (sb : Sub F H) {a : Addr} {ds : List (D × D)} {y : V} {u : Value} {k : D} (hd : Cn X.K F H (.ref a) (.dict ds)) (hy : Cn X.K F H y k) (ok : keyOk ds k = true) (ry : RelV y u) {Q : Value → Shared → Prop}
    (h : ∀ s', Inv X pn σ H s' → Q (.bool (!(dget ds k).isSome)) s') : wpAny (model X.prog X.w) X.A (compareOp .NotIn u (.ref a)) Q X.xe s := by
  have hk := hy.dp sb
  unfold keyOk at ok
  rw [Bool.or_eq_true, Bool.and_eq_true, Bool.and_eq_true] at ok
  rcases ok with ⟨f1, f2⟩ | ⟨f1, f2⟩
  · obtain ⟨q, e1, e2⟩ := flat_key hk f1
    subst e1 e2
    cases hd with
    | scr _ _ => simp [flatK] at f2
    | dk g t =>
      refine d_notIn (o := valV _ q) hu I (.k g) ry fun s' I' => ?_
      rcases t.val q with ⟨v, e, h1, h2, _⟩ | ⟨h1, h2⟩ <;> (have z := h s' I'; rw [h2] at z; rw [h1]; exact z)
    | dt g t =>
      obtain ⟨e1, e2⟩ := t.not_flat f2
      subst e1 e2
      obtain ⟨m, hs⟩ := emptyTK (I.hok a _ g)
      exact wpAny_notIn_of (kV_is ry) hs m.mapOf (h _ (I.tok _))
  · obtain ⟨b, q, e1, e2, e3⟩ := tup_key hk f1
    subst e1 e3
    cases hd with
    | scr _ _ => simp [tupK] at f2
    | dk g t =>
      obtain ⟨e1, e4⟩ := t.not_tup f2
      subst e1 e4
      obtain ⟨m, hs⟩ := emptyKT (I.hok a _ g)
      cases (show u = Value.ref b from ry)
      exact wpAny_notIn_heap (tupleKind_room_in1 hu) (key_of I.hok e2) hs m (h _ (I.tok _))
    | dt g t =>
      refine d_notIn (o := valV _ q) hu I (.t g e2) ry fun s' I' => ?_
      rcases t.val q with ⟨v, e, h1, h2, _⟩ | ⟨h1, h2⟩ <;> (have z := h s' I'; rw [h2] at z; rw [h1]; exact z)
/-- d[k], there -/
theorem dgetI (hu : X.A.units + 1 < cLine) (I : Inv X pn σ H s) (sb : Sub F H) {a : Addr} {ds : List (D × D)} {y : V} {u : Value} {k e : D} (hd : Cn X.K F H (.ref a) (.dict ds)) (hy : Cn X.K F H y k) (ok : keyOk ds k = true) (hg : dget ds k = some e) (ry : RelV y u) {Q : Value → Shared → Prop}
    (h : ∀ v w s', Inv X pn σ H s' → RelV v w → DP X.K F v e → Q w s') : wpAny (model X.prog X.w) X.A (getItem (.ref a) u) Q X.xe s := by
  have hk := hy.dp sb
  unfold keyOk at ok
  rw [Bool.or_eq_true, Bool.and_eq_true, Bool.and_eq_true] at ok
  rcases ok with ⟨f1, f2⟩ | ⟨f1, f2⟩
  · obtain ⟨q, e1, e2⟩ := flat_key hk f1
    subst e1 e2
    cases hd with
    | scr _ _ => simp [flatK] at f2
    | dk g t =>
      rcases t.val q with ⟨v, e', h1, h2, h3⟩ | ⟨h1, h2⟩
      · rw [hg] at h2
        cases h2
        exact d_getItem (v := v) hu I (h1 ▸ .k g) ry fun w s' I' r => h v w s' I' r h3
      · rw [hg] at h2; cases h2
    | dt g t =>
      obtain ⟨e1, e2⟩ := t.not_flat f2
      subst e2
      cases hg
  · obtain ⟨b, q, e1, e2, e3⟩ := tup_key hk f1
    subst e1 e3
    cases hd with
    | scr _ _ => simp [tupK] at f2
    | dk g t =>
      obtain ⟨e1, e4⟩ := t.not_tup f2
      subst e4
      cases hg
    | dt g t =>
      rcases t.val q with ⟨v, e', h1, h2, h3⟩ | ⟨h1, h2⟩
      · rw [hg] at h2
        cases h2
        exact d_getItem (v := v) hu I (h1 ▸ .t g e2) ry fun w s' I' r => h v w s' I' r h3
      · rw [hg] at h2; cases h2
end

/-! ### comparisons -/
def cmN : Cm → CmpOp
  | .lt => .Lt | .le => .LtE | .gt => .Gt | .ge => .GtE | .eq => .Eq | .ne => .NotEq | .isin => .In | .notin => .NotIn | .is_ => .Is | .isnot => .IsNot
def rC (K : PySem.W.Frag) (o : Cm) : R2 := fun x y H Q => ∃ F dx dy b, Sub F H ∧ Cn K F H x dx ∧ Cn K F H y dy ∧ cmpEv o dx dy = some b ∧ Q (.bl b) H
section
variable {X : Cx}
theorem cn_isNone {F H : Hp} {v : V} {d : D} (h : Cn X.K F H v d) : decide (v = V.non) = isNone d := by cases h <;> rfl
theorem lt_case (hu : X.A.units + 64 < cLine) {F H : Hp} {pn : List (Addr × Obj)} {σ : St} {s : Shared} (I : Inv X pn σ H s) (sb : Sub F H) {x y : V} {u v : Value} {dx dy : D} {b : Bool} (hx : Cn X.K F H x dx) (hy : Cn X.K F H y dy) (rx : RelV x u) (ry : RelV y v) (e : ltEv dx dy = some b) {Q : Value → Shared → Prop} (h : Q (.bool b) s) :
    wpAny (model X.prog X.w) X.A (compareOp .Lt u v) Q X.xe s ∧ wpAny (model X.prog X.w) X.A (compareOp .Gt v u) Q X.xe s := by
  cases hx <;> cases hy <;> simp only [ltEv] at e <;> try (cases e; done)
  · cases e
    obtain ⟨t, rfl⟩ := rx
    obtain ⟨t', rfl⟩ := ry
    exact ⟨lt_int h, gt_int h⟩
  · rename_i a xs ds h1 h2 a' ys es h3 h4
    split at e
    · rename_i hc
      have e' := Option.some.inj e
      subst e'
      simp only [Bool.and_eq_true] at hc
      obtain ⟨⟨p1, p2⟩, hal, hal'⟩ := hc
      obtain ⟨as, ra⟩ := Cn.reads I sb (Cn.tup h1 h2) (okD_plain p1) rx
      obtain ⟨bs, rb⟩ := Cn.reads I sb (Cn.tup h3 h4) (okD_plain p2) ry
      have q := okD_depth p1
      refine ⟨PySem.W.rcLt_alike _ _ X.A s u v _ _ ra rb hal nofun ?_ _ _ _ _ h, PySem.W.rcGt_alike _ _ X.A s v u _ _ rb ra hal' nofun ?_ _ _ _ _ h⟩
      · have := Nat.min_le_left (PyData.tuple ds).depth (PyData.tuple es).depth
        omega
      · have := Nat.min_le_right (PyData.tuple es).depth (PyData.tuple ds).depth
        omega
    · cases e
theorem in_case (hu : X.A.units + 64 < cLine) {F H : Hp} {pn : List (Addr × Obj)} {σ : St} {s : Shared} (I : Inv X pn σ H s) (sb : Sub F H) {x y : V} {u v : Value} {dx dy : D} {b : Bool} (hx : Cn X.K F H x dx) (hy : Cn X.K F H y dy) (rx : RelV x u) (ry : RelV y v) (e : inEv dx dy = some b) {Q : Value → Shared → Prop} :
    ((∀ s', Inv X pn σ H s' → Q (.bool b) s') → wpAny (model X.prog X.w) X.A (compareOp .In u v) Q X.xe s) ∧ ((∀ s', Inv X pn σ H s' → Q (.bool (!b)) s') → wpAny (model X.prog X.w) X.A (compareOp .NotIn u v) Q X.xe s) := by
  cases hy with
  | non => cases e
  | bl _ => cases e
  | int _ => cases e
  | str _ => cases e
  | lst h1 h2 =>
    rename_i a xs ds
    simp only [inEv] at e
    split at e
    · rename_i hc
      have e' := Option.some.inj e
      subst e'
      rw [Bool.and_eq_true] at hc
      obtain ⟨as, ra⟩ := hx.reads I sb (okD_plain hc.1) rx
      obtain ⟨bs, rb⟩ := Cn.reads I sb (Cn.lst h1 h2) (okD_plain hc.2) ry
      have q := okD_depth hc.1
      have q2 := Nat.min_le_right (PyData.depthAll ds) dx.depth
      have pl : PyData.plainAll ds = true := by simpa [PyData.plain] using okD_plain hc.2
      exact ⟨fun h => SeqAt.in_list_data rb ra pl (okD_plain hc.1) (by omega) (h s I), fun h => SeqAt.notIn_list_data rb ra pl (okD_plain hc.1) (by omega) (h s I)⟩
    · cases e
  | tup h1 h2 =>
    rename_i a xs ds
    simp only [inEv] at e
    split at e
    · rename_i hc
      have e' := Option.some.inj e
      subst e'
      rw [Bool.and_eq_true] at hc
      obtain ⟨as, ra⟩ := hx.reads I sb (okD_plain hc.1) rx
      obtain ⟨bs, rb⟩ := Cn.reads I sb (Cn.tup h1 h2) (okD_plain hc.2) ry
      have q := okD_depth hc.1
      have q2 := Nat.min_le_right (PyData.depthAll ds) dx.depth
      have pl : PyData.plainAll ds = true := by simpa [PyData.plain] using okD_plain hc.2
      exact ⟨fun h => SeqAt.in_tuple_data rb ra pl (okD_plain hc.1) (by omega) (h s I), fun h => SeqAt.notIn_tuple_data rb ra pl (okD_plain hc.1) (by omega) (h s I)⟩
    · cases e
  | scr h1 h2 =>
    simp only [inEv] at e
    split at e
    · rename_i hc
      simp [keyOk, flatK, tupK] at hc
    · cases e
  | dk h1 h2 =>
    simp only [inEv] at e
    split at e
    · rename_i hc
      have e' := Option.some.inj e
      subst e'
      cases (show v = Value.ref _ from ry)
      exact ⟨fun h => din (by omega) I sb (.dk h1 h2) hx hc rx h, fun h => dnotin (by omega) I sb (.dk h1 h2) hx hc rx h⟩
    · cases e
  | dt h1 h2 =>
    simp only [inEv] at e
    split at e
    · rename_i hc
      have e' := Option.some.inj e
      subst e'
      cases (show v = Value.ref _ from ry)
      exact ⟨fun h => din (by omega) I sb (.dt h1 h2) hx hc rx h, fun h => dnotin (by omega) I sb (.dt h1 h2) hx hc rx h⟩
    · cases e
theorem is_case {F H : Hp} {pn : List (Addr × Obj)} {σ : St} {s : Shared} (I : Inv X pn σ H s) {x y : V} {u v : Value} {dx dy : D} {b : Bool} (hx : Cn X.K F H x dx) (hy : Cn X.K F H y dy) (rx : RelV x u) (ry : RelV y v) (e : isEv dx dy = some b) {Q : VK} :
    (Q (.bl b) H → wpAny (model X.prog X.w) X.A (compareOp .Is u v) (EP X pn σ Q) X.xe s) ∧ (Q (.bl (!b)) H → wpAny (model X.prog X.w) X.A (compareOp .IsNot u v) (EP X pn σ Q) X.xe s) := by
  cases hy with
  | non =>
    have e' : isNone dx = b := by cases hx <;> exact Option.some.inj e
    subst e'
    have q := cn_isNone hx
    exact ⟨fun h => op_isN pn s σ H _ _ u v Q I rx ry ⟨rfl, by rw [q]; exact h⟩, fun h => op_notN pn s σ H _ _ u v Q I rx ry ⟨rfl, by rw [q]; exact h⟩⟩
  | bl c =>
    cases hx with
    | bl a =>
      have e' := Option.some.inj e
      subst e'
      exact ⟨fun h => op_isBl pn s σ H _ _ u v Q I rx ry ⟨_, _, rfl, rfl, h⟩, fun h => op_notBl pn s σ H _ _ u v Q I rx ry ⟨_, _, rfl, rfl, h⟩⟩
    | _ => cases e
  | _ => cases hx <;> cases e
theorem or_cmp (hu : X.A.units + 64 < cLine) (o : Cm) : OpR X (compareOp (cmN o)) (rC X.K o) := by
  intro pn s σ H x y v u Q I rx ry h
  obtain ⟨F, dx, dy, b, sb, hx, hy, e, g⟩ := h
  have fin : EP X pn σ Q (.bool b) s := ⟨.bl b, H, I, rfl, g⟩
  cases o with
  | lt => exact (lt_case hu I sb hx hy rx ry e fin).1
  | gt => exact (lt_case hu I sb hy hx ry rx e fin).2
  | le =>
    cases hx <;> cases hy <;> simp only [cmpEv] at e <;> try (cases e; done)
    cases e
    exact op_le pn s σ H _ _ v u Q I rx ry ⟨_, _, rfl, rfl, g⟩
  | ge =>
    cases hx <;> cases hy <;> simp only [cmpEv] at e <;> try (cases e; done)
    cases e
    exact op_ge pn s σ H _ _ v u Q I rx ry ⟨_, _, rfl, rfl, g⟩
  | eq =>
    simp only [cmpEv] at e
    split at e <;> cases e
    rename_i hc
    rw [Bool.and_eq_true] at hc
    obtain ⟨as, ra⟩ := hx.reads I sb (okD_plain hc.1) rx
    obtain ⟨bs, rb⟩ := hy.reads I sb (okD_plain hc.2) ry
    refine SeqAt.eq_plain ra rb (okD_plain hc.1) (okD_plain hc.2) ?_ fin
    have := okD_depth hc.1
    have := Nat.min_le_left dx.depth dy.depth
    omega
  | ne =>
    simp only [cmpEv] at e
    split at e <;> cases e
    rename_i hc
    rw [Bool.and_eq_true] at hc
    obtain ⟨as, ra⟩ := hx.reads I sb (okD_plain hc.1) rx
    obtain ⟨bs, rb⟩ := hy.reads I sb (okD_plain hc.2) ry
    refine SeqAt.ne_plain ra rb (okD_plain hc.1) (okD_plain hc.2) ?_ fin
    have := okD_depth hc.1
    have := Nat.min_le_left dx.depth dy.depth
    omega
  | isin => exact (in_case hu I sb hx hy rx ry e).1 fun s' I' => ⟨.bl b, H, I', rfl, g⟩
  | notin =>
    simp only [cmpEv] at e
    cases q : inEv dx dy with
    | none => rw [q] at e; cases e
    | some c =>
      rw [q] at e
      have e' := Option.some.inj e
      subst e'
      exact (in_case hu I sb hx hy rx ry q).2 fun s' I' => ⟨.bl (!c), H, I', rfl, g⟩
  | is_ => exact (is_case I hx hy rx ry e).1 g
  | isnot =>
    simp only [cmpEv] at e
    cases q : isEv dx dy with
    | none => rw [q] at e; cases e
    | some c =>
      rw [q] at e
      have e' := Option.some.inj e
      subst e'
      exact (is_case I hx hy rx ry q).2 g
end
end PI

set_option Elab.async false
set_option linter.all false
set_option maxRecDepth 100000
set_option maxHeartbeats 4000000
/-! PIf: sorting of alike data, tuples without items among them too. -/
namespace PI
set_option autoImplicit false
open PySem PySem.Spec PySem.W L2
open PyProof.Rows hiding St

section
variable {prog : Program} {w : World} {A : Around} {E : Value → Shared → Prop} {s : Shared}
theorem oneLt_tup {xs ys : List D} {a b : Value} {as bs : List Addr} {Q : Bool → Shared → Prop} (ra : Reads s.heap a (.tuple xs) as) (rb : Reads s.heap b (.tuple ys) bs) (hal : alikeAll xs ys = true)
    (hu : A.units + min (PyData.tuple xs).depth (PyData.tuple ys).depth < cLine) (hq : Q (dataLt (.tuple xs) (.tuple ys)) s) : wpAny (model prog w) A (oneLt' true a b) Q E s := by
  cases ra with
  | @tuple l o vs n _ as₁ h1 h2 h3 h4 =>
    cases rb with
    | @tuple l' o' vs' n' _ bs₁ k1 k2 k3 k4 =>
      have n1 : vs.size = xs.length := by simpa using SeqAt.ReadsAll.length _ _ _ h4
      have n2 : vs'.size = ys.length := by simpa using SeqAt.ReadsAll.length _ _ _ k4
      rw [dataLt_tuple, ← firstLt_toks xs ys hal, ← n1, ← n2] at hq
      rw [oneLt'_eq]
      simp only [if_true]
      refine wpAny_bind (wpAny_cRoomFor (SeqAt.room_here hu) ?_)
      obtain ⟨cl, dd, dat, sl⟩ := o
      obtain ⟨cl2, dd2, dat2, sl2⟩ := o'
      simp only at h2 h3 k2 k3
      subst h2 h3 k2 k3
      have T1 : s.TypeIs (.ref l) "tuple" := ⟨_, h1, rfl⟩
      refine wpAny_bind (wpAny_callSpecialIfBound?_slot (T := "tuple") T1 F.slot_tuple_lt ?_)
      refine call_meets F.slot_tuple_lt T1 F.entry_tuple_lt (F.args_tuple_lt_2 _ _) (SeqAt.tuple_ltAt l l' vs vs' n n' dd dd2 sl sl2 (SeqAt.pairEq xs ys) (fun j => dataLt (xs.getD j .none) (ys.getD j .none))) ⟨h1, k1, fun j j1 j2 => ?_, fun j j1 j2 hj => ?_, ?_⟩
      · have q := eqAt_alikeAll xs ys A.in1 s vs.toList vs'.toList _ _ h4 k4 hal (SeqAt.room_in hu) j (by simpa using j1) (by simpa using j2)
        simpa using q
      · have q := rcLt_alikeAll xs ys A.in1 s vs.toList vs'.toList _ _ h4 k4 hal (SeqAt.room_in hu) j (by simpa using j1) (by simpa using j2) hj
        simpa using q
      · exact wpAny_truthy_bool hq

/-- the first items of tuples, where they have one -/
def Firsts (h : Heap) : List Value → List (Option Value) → Prop
  | [], [] => True
  | v :: vs, f :: fs => (∃ a o xs n, v = .ref a ∧ h.get? a = some o ∧ o.cls = .type "tuple" ∧ o.data = .seq xs n ∧ xs[0]? = f) ∧ Firsts h vs fs
  | _, _ => False
theorem firsts_run {M : Model} : ∀ (vs : List Value) (fs : List (Option Value)) {Q : List (Option Value) → Shared → Prop}, Firsts s.heap vs fs → Q fs s → wpAny M A (vs.mapM firstOfTuple') Q E s
  | [], [], _, _, h => by rw [List.mapM_nil]; exact wpAny_pure h
  | [], _ :: _, _, t, _ => t.elim
  | _ :: _, [], _, t, _ => t.elim
  | v :: vs, f :: fs, Q, t, h => by
    obtain ⟨⟨a, o, xs, n, rfl, ho, hc, hd, hf⟩, t⟩ := t
    rw [List.mapM_cons, kas_first_eq]
    refine wpAny_bind (wpAny_bind (Looks.here (show Looks M s.heap (typeOf (.ref a)) o.cls from (Looks.ld ho).andThen .now) ?_))
    rw [hc, if_neg (by simp)]
    refine wpAny_bind (listItems_at ho hd (wpAny_pure ?_))
    rw [hf]
    exact wpAny_bind (firsts_run vs fs (Q := fun bs s' => wpAny M A (pure (f :: bs)) Q E s') t (wpAny_pure h))
theorem firsts_of {h : Heap} : ∀ {vs : List Value} {ds : List D}, EachIs (fun v d => ∃ as, Reads h v d as) vs ds → (∀ d, d ∈ ds → ∃ xs, d = PyData.tuple xs) → ∃ fs, Firsts h vs fs ∧ fs.length = ds.length ∧ ∀ (i : Nat) (xs : List D), ds[i]? = some (PyData.tuple xs) → (fs[i]?).map Option.isSome = some (!xs.isEmpty)
  | _, _, .nil, _ => ⟨[], trivial, rfl, fun i xs e => by simp at e⟩
  | _, _, .cons (b := d) ⟨as, r⟩ t, ht => by
    obtain ⟨fs, h1, h2, h3⟩ := firsts_of t fun d hd => ht d (List.mem_cons_of_mem _ hd)
    obtain ⟨xs, rfl⟩ := ht d (List.mem_cons_self ..)
    cases r with
    | @tuple a o vs n _ _ ho hc hd hr =>
      refine ⟨vs[0]? :: fs, ⟨⟨a, o, vs, n, rfl, ho, hc, hd, rfl⟩, h1⟩, by simp [h2], fun i ys e => ?_⟩
      cases i with
      | zero =>
        simp at e
        subst e
        have hl : vs.size = xs.length := by simpa using SeqAt.ReadsAll.length _ _ _ hr
        cases xs with
        | nil => simp at hl; simp [hl]
        | cons x r => simp at hl; simp [hl]
      | succ i => simpa using h3 i ys (by simpa using e)
/-- keys that are tuples, one of them without items -/
theorem mix_kind {M : Model} {vs : List Value} {ds : List D} (e : EachIs (fun v d => ∃ as, Reads s.heap v d as) vs ds) (ht : ∀ d, d ∈ ds → ∃ xs, d = PyData.tuple xs) (hm : PyData.tuple [] ∈ ds) :
    ∃ k, (k = general' ∨ k = oneType') ∧ ∀ (E : Value → Shared → Prop) {Q : SortKind → Shared → Prop}, Q k s → wpAny M A (keyKind' vs.toArray) Q E s := by
  obtain ⟨fs, f1, f2, f3⟩ := firsts_of e ht
  have hlen : vs.length = ds.length := e.length
  obtain ⟨i, hi, ei⟩ := List.mem_iff_getElem.mp hm
  have hno : ¬ (fs.toArray.all fun x => x.isSome) = true := by
    intro q
    simp only [List.all_toArray, List.all_eq_true] at q
    have z := f3 i [] (by rw [List.getElem?_eq_getElem hi, ei])
    have hi2 : i < fs.length := by rw [f2]; exact hi
    rw [List.getElem?_eq_getElem hi2] at z
    have q2 := q fs[i] (List.getElem_mem hi2)
    simp at z
    rw [z] at q2
    cases q2
  have hpos : 0 < vs.length := by omega
  by_cases h0 : (fs.toArray[0]?.bind id).isSome = true
  · refine ⟨general', .inl rfl, fun E Q h => ?_⟩
    rw [keyKind'_eq, List.mapM_toArray, map_eq_pure_bind]
    refine wpAny_bind (wpAny_bind (firsts_run vs fs f1 (wpAny_pure ?_)))
    rw [if_neg hno, if_pos h0]
    exact wpAny_pure h
  · refine ⟨oneType', .inr rfl, fun E Q h => ?_⟩
    rw [keyKind'_eq, List.mapM_toArray, map_eq_pure_bind]
    refine wpAny_bind (wpAny_bind (firsts_run vs fs f1 (wpAny_pure ?_)))
    rw [if_neg hno, if_neg h0]
    rw [oneTypeOnly'_eq, List.mapM_toArray, map_eq_pure_bind]
    refine wpAny_bind (wpAny_bind (wpAny_bind (kas_mapM (r := Value.type "tuple") _ (fun v hv Q' hq => ?_) (wpAny_pure ?_))))
    · obtain ⟨d, hd, as, r⟩ := e.left v hv
      obtain ⟨xs, rfl⟩ := ht d hd
      exact (looks_reads r).here hq
    · obtain ⟨v0, vr, rfl⟩ : ∃ v0 vr, vs = v0 :: vr := by
        cases vs with
        | nil => simp at hpos
        | cons a b => exact ⟨a, b, rfl⟩
      have hz : ((v0 :: vr).map fun _ => Value.type "tuple").toArray[0]? = some (Value.type "tuple") := by simp
      have hall : ((((v0 :: vr).map fun _ => Value.type "tuple").toArray.all fun x => x == Value.type "tuple")) = true := by
        simp only [List.all_toArray, List.all_map, List.all_eq_true]
        intro _ _
        rfl
      rw [hz]
      simp only [hall, if_true]
      refine wpAny_pure ?_
      simp only [Option.isSome_some, if_true]
      exact wpAny_pure h
/-- alike data can be sorted -/
theorem sortsAt {vs : List Value} {ds : List D} (e : EachIs (fun v d => ∃ as, Reads s.heap v d as) vs ds) (hal : AllAlike ds) (hn : ∀ d, d ∈ ds → d ≠ .none) (hu : ∀ d, d ∈ ds → A.units + d.depth < cLine) : SortsAt prog w A s (dataKind s.heap ds) vs := by
  by_cases h1 : ∀ d, d ∈ ds → ∃ xs, d = PyData.tuple xs
  · by_cases h2 : PyData.tuple [] ∈ ds
    · refine ⟨fun v hv => ?_, ?_⟩
      · obtain ⟨d, hd, as, r⟩ := e.left v hv
        exact ⟨_, dataKind_some hal hd r⟩
      · obtain ⟨k, hk, hrun⟩ := mix_kind (M := model prog w) (A := A) e h1 h2
        refine ⟨k, ?_, fun _ E Q hq => hrun E hq⟩
        intro E x y a b Q ha hb hq
        obtain ⟨d, as, hd, ra, rfl⟩ := dataKind_inv ha
        obtain ⟨d', as', hd', rb, rfl⟩ := dataKind_inv hb
        have room : A.units + min d.depth d'.depth < cLine := Nat.lt_of_le_of_lt (Nat.add_le_add_left (Nat.min_le_left _ _) _) (hu d hd)
        rcases hk with rfl | rfl
        · show wpAny _ _ (oneLt' false x y) _ _ _
          exact oneLt_alike (fun z => by cases z) ra rb (hal d hd d' hd') (hn d hd) room hq
        · rw [keyLt'_oneType]
          obtain ⟨xs, rfl⟩ := h1 d hd
          obtain ⟨ys, rfl⟩ := h1 d' hd'
          exact oneLt_tup ra rb (by simpa [alike] using hal _ hd _ hd') room hq
    · refine SortsAt.data e hal (.inl fun d hd => ?_) hu
      obtain ⟨xs, rfl⟩ := h1 d hd
      cases xs with
      | nil => exact absurd hd h2
      | cons x r => exact ⟨x, r, rfl⟩
  · refine SortsAt.data e hal (.inr fun d hd => ⟨hn d hd, fun xs q => h1 fun d' hd' => ?_⟩) hu
    subst q
    have z := hal _ hd _ hd'
    cases d' <;> simp [alike] at z
    exact ⟨_, rfl⟩
end
end PI

set_option Elab.async false
set_option linter.all false
set_option maxRecDepth 100000
set_option maxHeartbeats 4000000
/-! PIg: built-in functions by their data. -/
namespace PI
set_option autoImplicit false
open PySem PySem.Spec PySem.W L2
open PyProof.Rows hiding St

def biV : Bi → Value
  | .len => .builtin "len" | .sum => .builtin "sum" | .mn => .builtin "min" | .mx => .builtin "max" | .mn2 => .builtin "min" | .mx2 => .builtin "max" | .srt => .builtin "sorted"
  | .tup => .type "tuple" | .lst => .type "list" | .dic => .type "dict" | .abs => .builtin "abs" | .int => .type "int" | .any => .builtin "any" | .all => .builtin "all" | .isi _ => .builtin "isinstance"
def rB (K : PySem.W.Frag) (f : Bi) : List V → Hp → VK → Prop := fun vs H Q => ∃ F ds r, Sub F H ∧ Cns K F H vs ds ∧ biEv f ds = some r ∧ Gives K F H r Q

section
variable {X : Cx} {F H : Hp} {K : PySem.W.Frag}
theorem Cns.one {vs : List V} {d : D} (h : Cns K F H vs [d]) : ∃ v, vs = [v] ∧ Cn K F H v d := by
  cases h with
  | cons a b => cases b; exact ⟨_, rfl, a⟩
theorem Cns.two {vs : List V} {d e : D} (h : Cns K F H vs [d, e]) : ∃ v w, vs = [v, w] ∧ Cn K F H v d ∧ Cn K F H w e := by
  cases h with
  | cons a b => cases b with
    | cons c t => cases t; exact ⟨_, _, rfl, a, c⟩
/-- a sequence's items stand -/
theorem Cn.seq {v : V} {d : D} {ds : List D} (h : Cn K F H v d) (e : seqOf d = some ds) (sb : Sub F H) : ∃ a xs, v = .ref a ∧ DPs K F xs ds ∧ ((H a = some (.lst xs) ∧ d = .list ds) ∨ (F a = some (.tup xs) ∧ d = .tuple ds)) := by
  cases h <;> simp only [seqOf] at e <;> try (cases e; done)
  · cases e; rename_i h t; exact ⟨_, _, rfl, t, .inl ⟨h, rfl⟩⟩
  · cases e; rename_i h t; exact ⟨_, _, rfl, t, .inr ⟨h, rfl⟩⟩
theorem reads_all {pn : List (Addr × Obj)} {σ : St} {s : Shared} (I : Inv X pn σ H s) (sb : Sub F H) : ∀ {vs : List V} {us : List Value} {ds : List D}, DPs X.K F vs ds → PyData.plainAll ds = true → Vals vs us → ∃ as, ReadsAll s.heap us ds as
  | _, _, _, .nil, _, r => by cases r; exact ⟨_, .nil⟩
  | _, _, _, .cons h t, p, .cons r1 r2 => by
    simp only [PyData.plainAll, Bool.and_eq_true] at p
    obtain ⟨as, q⟩ := Dp.reads I _ _ _ ((h.sub sb).toDp p.1) r1
    obtain ⟨bs, qs⟩ := reads_all I sb t p.2 r2
    exact ⟨_, .cons q qs⟩
theorem each_reads {pn : List (Addr × Obj)} {σ : St} {s : Shared} (I : Inv X pn σ H s) (sb : Sub F H) : ∀ {vs : List V} {us : List Value} {ds : List D}, DPs X.K F vs ds → (∀ d, d ∈ ds → d.plain = true) → Vals vs us → EachIs (fun v d => ∃ as, Reads s.heap v d as) us ds
  | _, _, _, .nil, _, r => by cases r; exact .nil
  | _, _, _, .cons h t, p, .cons r1 r2 =>
    .cons (Dp.reads I _ _ _ ((h.sub sb).toDp (p _ (List.mem_cons_self ..))) r1) (each_reads I sb t (fun d hd => p d (List.mem_cons_of_mem _ hd)) r2)
theorem each_dp : ∀ {vs : List V} {us : List Value} {ds : List D}, DPs K F vs ds → Vals vs us → EachIs (fun v d => ∃ x, RelV x v ∧ DP K F x d) us ds
  | _, _, _, .nil, r => by cases r; exact .nil
  | _, _, _, .cons h t, .cons r1 r2 => .cons ⟨_, r1, h⟩ (each_dp t r2)
theorem dps_each : ∀ {us : List Value} {ds : List D}, EachIs (fun v d => ∃ x, RelV x v ∧ DP K F x d) us ds → ∃ vs, Vals vs us ∧ DPs K F vs ds
  | _, _, .nil => ⟨[], .nil, .nil⟩
  | _, _, .cons ⟨x, r, h⟩ t => by
    obtain ⟨vs, q1, q2⟩ := dps_each t
    exact ⟨x :: vs, .cons r q1, .cons h q2⟩
theorem plain_all {ds : List D} : PyData.plainAll ds = true ↔ ∀ d, d ∈ ds → d.plain = true := by
  induction ds with
  | nil => simp [PyData.plainAll]
  | cons d ds ih => simp [PyData.plainAll, ih]
theorem depth_all {ds : List D} {d : D} (h : d ∈ ds) : d.depth ≤ PyData.depthAll ds := by
  induction ds with
  | nil => cases h
  | cons x xs ih =>
    rw [PyData.depthAll]
    rcases List.mem_cons.mp h with e | e
    · subst e; exact Nat.le_max_left _ _
    · exact Nat.le_trans (ih e) (Nat.le_max_right _ _)
theorem srt_facts {ds es : List D} (e : srtEv ds = some es) : AllAlike ds ∧ (∀ d, d ∈ ds → d ≠ .none ∧ okD d = true) ∧ es = ds.mergeSort (dataLe false id) := by
  unfold srtEv at e
  split at e
  · rename_i hc
    simp only [Bool.and_eq_true, allAlike, List.all_eq_true] at hc
    refine ⟨fun d hd d' hd' => hc.1 d hd d' hd', fun d hd => ⟨fun q => ?_, (hc.2 d hd).2⟩, (Option.some.inj e).symm⟩
    have z := (hc.2 d hd).1
    rw [q] at z
    cases z
  · cases e

theorem cr_srt_list (hu : X.A.units + 64 < cLine) {a : Addr} {xs : List V} {ds es : List D} {pn : List (Addr × Obj)} {σ : St} {s : Shared} {Q : VK} (I : Inv X pn σ H s) (sb : Sub F H) (h : H a = some (.lst xs)) (t : DPs X.K F xs ds) (e : srtEv ds = some es)
    (g : Gives X.K F H (.fr (.list es)) Q) : wpAny (model X.prog X.w) X.A (call (.builtin "sorted") [.ref a]) (EP X pn σ Q) X.xe s := by
  obtain ⟨hal, hn, rfl⟩ := srt_facts e
  obtain ⟨its, rv, hl, hz⟩ := I.list (SqL.of h)
  have er : EachIs (fun v d => ∃ as, Reads s.heap v d as) its ds := each_reads I sb t (fun d hd => okD_plain (hn d hd).2) rv
  have hlen : its.length = ds.length := er.length
  have er' : EachIs (fun v b => ∃ as, Reads (sortingHeap (copyHeap s.heap its) (s.heap.objs.size + 1) its) v b as) its ds := er.mono fun _ _ ⟨as, r⟩ => ⟨as, PyProof.Rows.Reads.keeps (fun _ _ => sorting_copy_old) r⟩
  have hA : X.A.in1.in1.units = X.A.units + 2 := rfl
  refine sorted_vals hl.isList (sortsAt (s := { s with heap := sortingHeap (copyHeap s.heap its) (s.heap.objs.size + 1) its }) er' hal (fun d hd => (hn d hd).1) fun d hd => ?_) (by rw [← rv.length]; exact hz) ?_
  · have := okD_depth (hn d hd).2
    omega
  · have ed := each_dp t rv
    have q := sortVals_data (h' := sortingHeap (copyHeap s.heap its) (s.heap.objs.size + 1) its) (enc := id) false ed (by simpa using er') (by simpa using hal)
    obtain ⟨ys, q1, q2⟩ := dps_each q
    rw [List.map_id] at q1
    obtain ⟨ep, he'⟩ := PyProof.Rows.sortedAll_at s.heap its (sortVals (dataKind (sortingHeap (copyHeap s.heap its) (s.heap.objs.size + 1) its) ds) false its its).toArray
    have hlz : ys.length ≤ sizeLine := by
      rw [q2.len, List.length_mergeSort, ← t.len]; exact hz
    refine ⟨.ref _, upd H (s.heap.objs.size + 1) (.lst ys), I.laid (t' := s.toks) (fun _ _ => PyProof.Rows.sortedAll_old) (Nat.le_succ _) ⟨hlz, _, ep, q1, he'⟩, rfl, g3 g sb _ _ (I.hok.fresh (Nat.le_succ _)) (.lst upd_same q2)⟩

theorem eachIs_get {α β : Type} {R : α → β → Prop} : ∀ {as : List α} {bs : List β}, as.length = bs.length → (∀ (j : Nat) a b, as[j]? = some a → bs[j]? = some b → R a b) → EachIs R as bs
  | [], [], _, _ => .nil
  | a :: as, b :: bs, hl, h => .cons (h 0 a b rfl rfl) (eachIs_get (Nat.succ.inj hl) fun j x y p q => h (j + 1) x y (by simpa using p) (by simpa using q))
theorem pairedGet {α β : Type} {R : α → β → Prop} : ∀ {l : List α} {m : List β} {i : Nat} {a : α}, Paired R l m → l[i]? = some a → ∃ b, m[i]? = some b ∧ R a b
  | _, _, _, _, .nil, e => by simp at e
  | _, _, 0, _, .cons r _, e => by simp at e; subst e; exact ⟨_, rfl, r⟩
  | _, _, i + 1, _, .cons _ t, e => by
    obtain ⟨b, h1, h2⟩ := pairedGet (i := i) t (by simpa using e)
    exact ⟨b, by simpa using h1, h2⟩
theorem DKs.keys : ∀ {kvs : List (Key × V)} {ds : List (D × D)}, DKs K F kvs ds → ds.map (·.1) = kvs.map (keyD ·.1)
  | _, _, .nil => rfl
  | _, _, .cons _ t => by rw [List.map_cons, List.map_cons, DKs.keys t]
theorem DTs.keys : ∀ {kvs : List (List Key × V)} {ds : List (D × D)}, DTs K F kvs ds → ds.map (·.1) = kvs.map (keysD ·.1)
  | _, _, .nil => rfl
  | _, _, .cons _ t => by rw [List.map_cons, List.map_cons, DTs.keys t]
theorem key_dp (k : Key) : DP K F (kV k) (keyD k) := by cases k <;> constructor
theorem keys_dp : ∀ ks : List Key, DPs K F (ks.map kV) (ks.map keyD)
  | [] => .nil
  | k :: ks => .cons (key_dp k) (keys_dp ks)
theorem keyD_plain (k : Key) : (keyD k).plain = true := by cases k <;> rfl
theorem keysD_plain (k : List Key) : (keysD k).plain = true := by
  unfold keysD
  rw [PyData.plain, plain_all]
  intro d hd
  obtain ⟨x, _, rfl⟩ := List.mem_map.mp hd
  exact keyD_plain x
theorem keyIs_rel {k : Key} {v : Value} (h : keyIs k v = true) : RelV (kV k) v := by
  rcases keyIs_shape h with ⟨i, t, rfl, rfl⟩ | ⟨x, t, rfl, rfl⟩ <;> exact ⟨_, rfl⟩
/-- the tuples at some addresses join the frozen part -/
theorem GF.tuples (sb : Sub F H) (S : Addr → Prop) (hS : ∀ b, S b → ∃ xs, H b = some (.tup xs)) : ∃ F', GF F H F' ∧ ∀ b, S b → F' b = H b := by
  refine ⟨fun b => open Classical in if S b then H b else F b, ⟨fun b o q => ?_, fun b o q => ?_, fun b q => ?_⟩, fun b hb => by simp [hb]⟩
  · by_cases hb : S b
    · simp only [hb, if_true]; exact sb _ _ q
    · simp only [hb, if_false]; exact q
  · by_cases hb : S b
    · simp only [hb, if_true] at q; exact q
    · simp only [hb, if_false] at q; exact sb _ _ q
  · by_cases hb : S b
    · exact .inr (hS b hb)
    · simp only [hb, if_false] at q; exact .inl q
/-- the tail of sorted: a list of what was collected, sorted -/
theorem srt_tail (hu : X.A.units + 64 < cLine) {vals : List Value} {ds es : List D} {pn : List (Addr × Obj)} {σ : St} {s : Shared} {Q : VK} {E : Value → Shared → Prop} (I : Inv X pn σ H s) (er : EachIs (fun v d => ∃ as, Reads s.heap v d as) vals ds) {F' : Hp} (ed : EachIs (fun v d => ∃ x, RelV x v ∧ DP X.K F' x d) vals ds)
    (hz : vals.length ≤ sizeLine) (e : srtEv ds = some es) (g : ∀ p o, H p = none → Top X.K F' (upd H p o) p (.list es) → Q (.ref p) (upd H p o)) :
    wpAny (model X.prog X.w) X.A.in1 (newList vals >>= fun out => holding [out] (call (.builtin "list.sort") [out]) >>= fun _ => ret out) (fun fin s' => ∃ v, fin = Fin.done (Flow.ret v) ∧ EP X pn σ Q v s') E s := by
  obtain ⟨hal, hn, rfl⟩ := srt_facts e
  have hlen : vals.length = ds.length := er.length
  refine wpAny_bind (wpAny_newList ?_ hz)
  have hoL : (s.heap.push (seqObj "list" vals.toArray 0)).get? s.heap.objs.size = some (seqObj "list" vals.toArray 0) := Heap.get?_push_size _ rfl
  show wpAny _ _ _ _ _ { s with heap := s.heap.push (seqObj "list" vals.toArray 0) }
  have old : ∀ b o, s.heap.get? b = some o → (sortingHeap (s.heap.push (seqObj "list" vals.toArray 0)) s.heap.objs.size vals).get? b = some o := fun b o q => by
    have hb : b ≠ s.heap.objs.size := Nat.ne_of_lt (Heap.lt_size q)
    exact PySem.W.sortingHeap_old hb (Heap.get?_push_of_some _ q)
  have er' : EachIs (fun v b => ∃ as, Reads (sortingHeap (s.heap.push (seqObj "list" vals.toArray 0)) s.heap.objs.size vals) v b as) vals ds := er.mono fun _ _ ⟨as, r⟩ => ⟨as, PyProof.Rows.Reads.keeps old r⟩
  refine wpAny_bind (wpAny_holding (wpAny_call_entry PyProof.Rows.slot_list_sort ⟨_, hoL, rfl⟩ PyProof.Rows.entry_list_sort
    (PySem.W.list_sort_vals (s := { s with heap := s.heap.push (seqObj "list" vals.toArray 0) }) hoL (sortsAt (s := { s with heap := sortingHeap (s.heap.push (seqObj "list" vals.toArray 0)) s.heap.objs.size vals }) er' hal (fun d hd => (hn d hd).1) fun d hd => ?_) hz ⟨_, rfl, ?_⟩) (PyProof.Rows.args_list_sort _)))
  · have hA : X.A.in1.in1.units = X.A.units + 2 := rfl
    have := okD_depth (hn d hd).2
    omega
  · have q := sortVals_data (h' := sortingHeap (s.heap.push (seqObj "list" vals.toArray 0)) s.heap.objs.size vals) (enc := id) false ed (by simpa using er') (by simpa using hal)
    obtain ⟨ys, q1, q2⟩ := dps_each q
    rw [List.map_id] at q1
    obtain ⟨ep, he'⟩ := PyProof.Rows.sortedHeap_at (vs := vals) (out := (sortVals (dataKind (sortingHeap (s.heap.push (seqObj "list" vals.toArray 0)) s.heap.objs.size vals) ds) false vals vals).toArray) hoL
    have hlz : ys.length ≤ sizeLine := by
      rw [q2.len, List.length_mergeSort, ← hlen]; exact hz
    refine wpAny_pure ⟨_, rfl, .ref s.heap.objs.size, upd H s.heap.objs.size (.lst ys), I.laid (t' := s.toks) (fun b u z => ?_) (Nat.le_refl _) ⟨hlz, _, ep, q1, he'⟩, rfl, g _ _ (I.hok.fresh (Nat.le_refl _)) (.lst upd_same q2)⟩
    have hb : b < s.heap.objs.size := Heap.lt_size z
    rw [PyProof.Rows.sortedHeap_old (Nat.ne_of_lt hb) (by rw [size_push']; exact Nat.lt_succ_of_lt hb)]
    exact Heap.get?_push_of_some _ z
theorem cr_srt_dict (hu : X.A.units + 64 < cLine) (hc : X.calm = true) {a : Addr} {kvs : List (D × D)} {es : List D} {pn : List (Addr × Obj)} {σ : St} {s : Shared} {Q : VK} (I : Inv X pn σ H s) (sb : Sub F H) (h : Cn X.K F H (.ref a) (.dict kvs)) (ok : oneKind (kvs.map (·.1)) = true) (e : srtEv (kvs.map (·.1)) = some es)
    (g : Gives X.K F H (.fr (.list es)) Q) : wpAny (model X.prog X.w) X.A (call (.builtin "sorted") [.ref a]) (EP X pn σ Q) X.xe s := by
  refine Calls.call_function_entry PyProof.Rows.kind_sorted PyProof.Rows.plain_sorted PyProof.Rows.entry_sorted (PyProof.Rows.args_sorted1 _) ?_
  unfold Builtin.«sorted»
  refine wpAny_bind (m := checkCount "sorted" 1 1 _) (wpAny_pure ?_)
  cases h with
  | scr _ _ => simp [oneKind, flatK, tupK] at ok
  | dk ha t =>
    rename_i kk
    obtain ⟨z, lo, vs, rel, dd⟩ := dk_rd I.hok (.inl ha)
    obtain ⟨ep, hat⟩ := dd.dictAt
    have h16 : vs.length ≤ sizeLine := by rw [← rel.length]; exact z
    refine wpAny_bind (PySem.W.kdu_collect (A := X.A.in1) (PySem.W.kdl_dict (knd := mixKind X.prog X.w) (kvs := vs) (ep := ep) lo) (I.ok.hd hc) hat h16 fun h' tk acc hk hacc => ?_)
    have I1 : Inv X pn σ H { s with heap := h', toks := tk } := I.kept hk
    have hal : acc.toList.length = (kvs.map (·.1)).length := by rw [Array.length_toList, hacc.1, ← rel.length, List.length_map, t.len]
    have key : ∀ (j : Nat) (v : Value) (d : D), acc.toList[j]? = some v → (kvs.map (·.1))[j]? = some d → ∃ k : Key, d = keyD k ∧ RelV (kV k) v := fun j v d p1 p2 => by
      obtain ⟨k, x, q1, q2⟩ := hacc.2 j v (by rw [← Array.getElem?_toList]; exact p1)
      have e3 : (vs.map (·.1))[j]? = some k := by rw [List.getElem?_map, q1]; rfl
      rw [← rel.keys] at e3
      rw [t.keys] at p2
      rw [List.getElem?_map] at e3 p2
      cases w : kk[j]? with
      | none => rw [w] at e3; cases e3
      | some y =>
        rw [w] at e3 p2
        cases e3
        cases p2
        exact ⟨y.1, rfl, keyIs_rel q2⟩
    refine srt_tail (F' := F) hu I1 (eachIs_get hal fun j v d p1 p2 => ?_) (eachIs_get hal fun j v d p1 p2 => ?_) (by rw [Array.length_toList, hacc.1]; exact h16) e (fun p o q w => g3 g sb p o q w)
    · obtain ⟨k, rfl, r⟩ := key j v d p1 p2
      exact Dp.reads I1 _ _ _ ((key_dp (F := H) k).toDp (keyD_plain k)) r
    · obtain ⟨k, rfl, r⟩ := key j v d p1 p2
      exact ⟨_, r, key_dp k⟩
  | dt ha t =>
    rename_i kk
    obtain ⟨z, lo, xs, rel, ob, esA, ep, h1, h2, h3, h4, h5, h6⟩ := dt_rd I.hok (.inl ha)
    have hsz : esA.size = xs.length := size_of_entries h4
    have hkx : kk.length = xs.length := Paired.length rel
    have h16 : esA.size ≤ sizeLine := by rw [hsz, ← hkx]; exact z
    have raw : s.heap.DictRaw a esA ep := ⟨ob, h1, h2, h3⟩
    refine wpAny_bind (PySem.W.kdu_collect (A := X.A.in1) (KdlSrc.rawDict (es := esA) (ep := ep) lo) (I.ok.hd hc) raw h16 fun h' tk acc hk hacc => ?_)
    have I1 : Inv X pn σ H { s with heap := h', toks := tk } := I.kept hk
    have hal : acc.toList.length = (kvs.map (·.1)).length := by rw [Array.length_toList, hacc.1, hsz, ← hkx, List.length_map, t.len]
    have key : ∀ (j : Nat) (v : Value) (d : D), acc.toList[j]? = some v → (kvs.map (·.1))[j]? = some d → ∃ (b : Addr) (k : List Key), d = keysD k ∧ v = .ref b ∧ H b = some (.tup (k.map kV)) ∧ ∃ x, xs[j]? = some (k, b, x) := fun j v d p1 p2 => by
      obtain ⟨hi, q1⟩ := hacc.2 j v (by rw [← Array.getElem?_toList]; exact p1)
      have hx : j < xs.length := by omega
      have e3 := entry_at h4 j
      rw [List.getElem?_eq_getElem hx, Array.getElem?_eq_getElem hi] at e3
      have e4 := Option.some.inj e3
      rw [t.keys, List.getElem?_map] at p2
      cases w : kk[j]? with
      | none => rw [w] at p2; cases p2
      | some y =>
        rw [w] at p2
        cases p2
        obtain ⟨y2, w2, r1, r2, _⟩ := pairedGet rel w
        rw [List.getElem?_eq_getElem hx] at w2
        have w3 := Option.some.inj w2
        refine ⟨y2.2.1, y.1, rfl, ?_, r2, y2.2.2, ?_⟩
        · rw [q1, e4, w3]; rfl
        · rw [List.getElem?_eq_getElem hx, w3, r1]
    obtain ⟨F', gf, hF'⟩ := GF.tuples sb (fun b => ∃ (k : List Key), H b = some (.tup (k.map kV))) fun b ⟨k, q⟩ => ⟨_, q⟩
    refine srt_tail (F' := F') hu I1 (eachIs_get hal fun j v d p1 p2 => ?_) (eachIs_get hal fun j v d p1 p2 => ?_) (by rw [Array.length_toList, hacc.1]; exact h16) e (fun p o q w => g F' gf p o q w)
    · obtain ⟨b, k, rfl, rfl, hb, _⟩ := key j v d p1 p2
      exact Dp.reads I1 _ _ _ ((DP.tup (K := X.K) (F := H) hb (keys_dp k)).toDp (keysD_plain k)) rfl
    · obtain ⟨b, k, rfl, rfl, hb, _⟩ := key j v d p1 p2
      exact ⟨.ref b, rfl, .tup (by rw [hF' b ⟨k, hb⟩]; exact hb) (keys_dp k)⟩
end
end PI

set_option Elab.async false
set_option linter.all false
set_option maxRecDepth 100000
set_option maxHeartbeats 4000000
/-! PIh: dicts stored to, made of pairs, updated. -/
namespace PI
set_option autoImplicit false
open PySem PySem.Spec PySem.W L2
open PyProof.Rows hiding St

section
variable {K : PySem.W.Frag} {F H : Hp}
theorem DKs.any (k : Key) : ∀ {kvs : List (Key × V)} {ds : List (D × D)}, DKs K F kvs ds → (ds.any fun p => PyData.eqv p.1 (keyD k)) = kvs.any fun p => decide (p.1 = k)
  | _, _, .nil => rfl
  | _, _, .cons _ t => by rw [List.any_cons, List.any_cons, DKs.any k t, keyD_eqv]
theorem DTs.any (k : List Key) : ∀ {kvs : List (List Key × V)} {ds : List (D × D)}, DTs K F kvs ds → (ds.any fun p => PyData.eqv p.1 (keysD k)) = kvs.any fun p => decide (p.1 = k)
  | _, _, .nil => rfl
  | _, _, .cons _ t => by rw [List.any_cons, List.any_cons, DTs.any k t, keysD_eqv]
theorem DKs.repl (k : Key) {v : V} {e : D} (hv : DP K F v e) : ∀ {kvs : List (Key × V)} {ds : List (D × D)}, DKs K F kvs ds → DKs K F (kvs.map fun p => if p.1 = k then (p.1, v) else p) (ds.map fun p => if PyData.eqv p.1 (keyD k) = true then (p.1, e) else p)
  | _, _, .nil => .nil
  | _, _, .cons (k := k') h t => by
    rw [List.map_cons, List.map_cons]
    simp only [keyD_eqv, decide_eq_true_eq]
    by_cases q : k' = k
    · rw [if_pos q, if_pos q]; exact .cons hv (DKs.repl k hv t)
    · rw [if_neg q, if_neg q]; exact .cons h (DKs.repl k hv t)
theorem DTs.repl (k : List Key) {v : V} {e : D} (hv : DP K F v e) : ∀ {kvs : List (List Key × V)} {ds : List (D × D)}, DTs K F kvs ds → DTs K F (kvs.map fun p => if p.1 = k then (p.1, v) else p) (ds.map fun p => if PyData.eqv p.1 (keysD k) = true then (p.1, e) else p)
  | _, _, .nil => .nil
  | _, _, .cons (k := k') h t => by
    rw [List.map_cons, List.map_cons]
    simp only [keysD_eqv, decide_eq_true_eq]
    by_cases q : k' = k
    · rw [if_pos q, if_pos q]; exact .cons hv (DTs.repl k hv t)
    · rw [if_neg q, if_neg q]; exact .cons h (DTs.repl k hv t)
theorem DKs.snoc (k : Key) {v : V} {e : D} (hv : DP K F v e) : ∀ {kvs : List (Key × V)} {ds : List (D × D)}, DKs K F kvs ds → DKs K F (kvs ++ [(k, v)]) (ds ++ [(keyD k, e)])
  | _, _, .nil => .cons hv .nil
  | _, _, .cons h t => .cons h (DKs.snoc k hv t)
theorem DTs.snoc (k : List Key) {v : V} {e : D} (hv : DP K F v e) : ∀ {kvs : List (List Key × V)} {ds : List (D × D)}, DTs K F kvs ds → DTs K F (kvs ++ [(k, v)]) (ds ++ [(keysD k, e)])
  | _, _, .nil => .cons hv .nil
  | _, _, .cons h t => .cons h (DTs.snoc k hv t)
theorem DKs.put (k : Key) {v : V} {e : D} (hv : DP K F v e) {kvs : List (Key × V)} {ds : List (D × D)} (t : DKs K F kvs ds) : DKs K F (putK kvs k v) (dput ds (keyD k) e) := by
  unfold putK dput
  rw [t.any k]
  split
  · exact t.repl k hv
  · exact t.snoc k hv
theorem DTs.put (k : List Key) {v : V} {e : D} (hv : DP K F v e) {kvs : List (List Key × V)} {ds : List (D × D)} (t : DTs K F kvs ds) : DTs K F (putK kvs k v) (dput ds (keysD k) e) := by
  unfold putK dput
  rw [t.any k]
  split
  · exact t.repl k hv
  · exact t.snoc k hv
end
section
variable {X : Cx} {F H : Hp} {pn : List (Addr × Obj)} {σ : St} {s : Shared}
/-- d[k] = v, whichever way it is stored -/
theorem dput_ok (hu : X.A.units + 1 < cLine) (I : Inv X pn σ H s) (sb : Sub F H) {a : Addr} {ds : List (D × D)} {y v : V} {u r : Value} {k e : D} (hd : Top X.K F H a (.dict ds)) (hy : DP X.K F y k) (hv : DP X.K F v e) (ok : keyOk ds k = true) (hl : ds.length < LIM) (ry : RelV y u) (rv : RelV v r) :
    ∃ o, Top X.K F (upd H a o) a (.dict (dput ds k e)) ∧ ∀ (Q : Unit → Shared → Prop) (E : Value → Shared → Prop), (∀ s', Inv X pn σ (upd H a o) s' → Q () s') →
      wpAny (model X.prog X.w) X.A (setItem (.ref a) u r) Q E s ∧ wpAny (model X.prog X.w) X.A (dictSet a u r) Q E s := by
  have hL := LIM_eq
  have hk := hy.sub sb
  unfold keyOk at ok
  rw [Bool.or_eq_true, Bool.and_eq_true, Bool.and_eq_true] at ok
  rcases ok with ⟨f1, f2⟩ | ⟨f1, f2⟩
  · obtain ⟨q, e1, e2⟩ := flat_key hk f1
    subst e1 e2
    cases hd with
    | dk g t =>
      rename_i kvs
      have hz : kvs.length < sizeLine := by rw [t.len, ← hL]; exact hl
      exact ⟨.dK (putK kvs q v), .dk upd_same (t.put q hv), fun Q E h => ⟨d_setItem hu I (.k g hz) ry rv h, d_dictSet I g hz ry rv h⟩⟩
    | dt g t =>
      obtain ⟨e1, e2⟩ := t.not_flat f2
      subst e1 e2
      obtain ⟨m, hs⟩ := emptyTK (I.hok a _ g)
      have hn : (0 : Nat) ≤ sizeLine := Nat.zero_le _
      have fin : ∀ h', h'.DictOf (mixKind X.prog X.w) a (stored [] q r) → Heap.SameBut a s.heap h' → ∀ tk, Inv X pn σ (upd H a (.dK [(q, v)])) { s with heap := h', toks := tk } := fun h' dd' hs' tk => by
        have he : ∃ z, h'.get? a = some z := let ⟨z, _, _, hz, _⟩ := dd'; ⟨z, hz⟩
        refine d_write I (by rw [g]; exact True.intro) hs' he (dk_new (kvs := [(q, v)]) (vs := [(q, r)]) ?_ hs (.cons ⟨rfl, rv⟩ .nil) dd')
        rw [sizeLine_eq, List.length_singleton]; decide
      refine ⟨.dK [(q, v)], .dk upd_same (.cons hv .nil), fun Q E h => ⟨?_, ?_⟩⟩
      · exact wpAny_setItem_pairs (hsz := hn) (kV_is ry) m fun h' dd' hs' => h _ (fin h' dd' hs' _)
      · exact wpAny_dictSet_pairs (hsz := hn) (kV_is ry) m fun h' dd' hs' => h _ (fin h' dd' hs' _)
  · obtain ⟨b, q, e1, e2, e3⟩ := tup_key hk f1
    subst e1 e3
    cases (show u = Value.ref b from ry)
    have up : ∀ (o : HO), a ≠ b → (upd H a o) b = some (.tup (q.map kV)) := fun o hne => by rw [upd_ne (Ne.symm hne)]; exact e2
    cases hd with
    | dk g t =>
      obtain ⟨e1, e4⟩ := t.not_tup f2
      subst e1 e4
      obtain ⟨m, hs⟩ := emptyKT (I.hok a _ g)
      have hab : a ≠ b := ne_of g e2 nofun
      have hn : (0 : Nat) ≤ sizeLine := Nat.zero_le _
      have fin : ∀ h', h'.DictOfH (tupleKind (mixKind X.prog X.w)) a (storedH [] q b r) → Heap.SameBut a s.heap h' → ∀ tk, Inv X pn σ (upd H a (.dT [(q, v)])) { s with heap := h', toks := tk } := fun h' dd' hs' tk => by
        obtain ⟨z, es, ep, hz, h2, h3, h4, _, h5⟩ := dd'
        refine d_write I (by rw [g]; exact True.intro) hs' ⟨z, hz⟩ ⟨?_, hs, [(q, b, r)], .cons ⟨rfl, up _ hab, rv⟩ .nil, z, es, ep, hz, h2, h3, h4, h5⟩
        rw [sizeLine_eq, List.length_singleton]; decide
      refine ⟨.dT [(q, v)], .dt upd_same (.cons hv .nil), fun Q E h => ⟨?_, ?_⟩⟩
      · exact wpAny_setItem_heap (hsz := hn) (tupleKind_room_in1 hu) (key_of I.hok e2) m fun h' dd' hs' => h _ (fin h' dd' hs' _)
      · exact wpAny_dictSet_heap (hsz := hn) (show X.A.units < cLine by omega) (key_of I.hok e2) m fun h' dd' hs' => h _ (fin h' dd' hs' _)
    | dt g t =>
      rename_i kvs
      have hz : kvs.length < sizeLine := by rw [t.len, ← hL]; exact hl
      refine ⟨.dT (putK kvs q v), .dt upd_same (t.put q hv), fun Q E h => ⟨d_setItem hu I (.t g e2 hz) rfl rv h, ?_⟩⟩
      obtain ⟨zz, hs, xs, rel, dd⟩ := dt_of I.hok g
      have hzx : xs.length ≤ sizeLine := by rw [← Paired.length rel]; exact zz
      have hln : (putK kvs q v).length ≤ sizeLine := by have := length_putK kvs q v; omega
      refine wpAny_dictSet_heap (hsz := hzx) (show X.A.units < cLine by omega) (key_of I.hok e2) dd fun h' dd' hs' => h _ ?_
      obtain ⟨z, es, ep, hz', h2, h3, h4, _, h5⟩ := dd'
      refine d_write I (by rw [g]; exact True.intro) hs' ⟨z, hz'⟩ ⟨hln, hs, _, (rel.put q e2 rv).keeps fun c ys ec => ?_, z, es, ep, hz', h2, h3, h4, h5⟩
      rw [upd_ne (ne_of ec g nofun)]
      exact ec
end

/-! ### a dict of pairs -/
section
variable {K : PySem.W.Frag} {F H : Hp}
theorem DKs.mergeR : ∀ {ms : List (Key × V)} {es : List (D × D)}, DKs K F ms es → ∀ {kvs : List (Key × V)} {ds : List (D × D)}, DKs K F kvs ds → DKs K F (mergeK kvs ms) (dmerge ds es)
  | _, _, .nil, _, _, t => t
  | _, _, .cons h r, _, _, t => DKs.mergeR r (t.put _ h)
/-- pairs, flat keys -/
theorem pairs_flat : ∀ {vs : List V} {ps : List D} {kvs : List (D × D)}, DPs K F vs ps → pairsOf ps = some kvs → (kvs.map (·.1)).all flatK = true → ∃ (as : List Addr) (ks : List (Key × V)), vs = as.map V.ref ∧ Paired (fun p kv => SqT K F p [kV kv.1, kv.2]) as ks ∧ DKs K F ks kvs
  | _, _, kvs, .nil, e, _ => by cases e; exact ⟨[], [], rfl, .nil, .nil⟩
  | _, _, kvs, .cons h t, e, f => by
    rename_i v vs d ds
    cases h with
    | tup g u =>
      cases u with
      | nil => cases e
      | cons k1 u =>
        cases u with
        | nil => cases e
        | cons v1 u =>
          cases u with
          | cons _ _ => cases e
          | nil =>
            simp only [pairsOf] at e
            obtain ⟨r, er, e⟩ := Option.map_eq_some_iff.mp e
            subst e
            simp only [List.map_cons, List.all_cons, Bool.and_eq_true] at f
            obtain ⟨as, ks, h1, h2, h3⟩ := pairs_flat t er f.2
            obtain ⟨q, q1, q2⟩ := flat_key k1 f.1
            subst q1 q2
            exact ⟨_ :: as, (q, _) :: ks, by rw [h1]; rfl, .cons (SqT.of g) h2, .cons v1 h3⟩
    | _ => cases e
/-- pairs, keys that are tuples: (key, the key's tuple, value) -/
theorem pairs_tup : ∀ {vs : List V} {ps : List D} {kvs : List (D × D)}, DPs K F vs ps → pairsOf ps = some kvs → (kvs.map (·.1)).all tupK = true →
    ∃ (as : List Addr) (ks : List (List Key × Addr × V)), vs = as.map V.ref ∧ Paired (fun p kv => F p = some (.tup [.ref kv.2.1, kv.2.2]) ∧ F kv.2.1 = some (.tup (kv.1.map kV))) as ks ∧ DTs K F (ks.map fun q => (q.1, q.2.2)) kvs
  | _, _, kvs, .nil, e, _ => by cases e; exact ⟨[], [], rfl, .nil, .nil⟩
  | _, _, kvs, .cons h t, e, f => by
    rename_i v vs d ds
    cases h with
    | tup g u =>
      cases u with
      | nil => cases e
      | cons k1 u =>
        cases u with
        | nil => cases e
        | cons v1 u =>
          cases u with
          | cons _ _ => cases e
          | nil =>
            simp only [pairsOf] at e
            obtain ⟨r, er, e⟩ := Option.map_eq_some_iff.mp e
            subst e
            simp only [List.map_cons, List.all_cons, Bool.and_eq_true] at f
            obtain ⟨as, ks, h1, h2, h3⟩ := pairs_tup t er f.2
            obtain ⟨b, q, q1, q2, q3⟩ := tup_key k1 f.1
            subst q1 q3
            exact ⟨_ :: as, (q, b, _) :: ks, by rw [h1]; rfl, .cons ⟨g, q2⟩ h2, .cons v1 h3⟩
    | _ => cases e
theorem kt_merge {J : Hp} : ∀ {ks : List (List Key × Addr × V)} {ps : List (List Key × Addr × Value)}, Paired (fun p q => p.1 = q.1 ∧ p.2.1 = q.2.1 ∧ RelV p.2.2 q.2.2 ∧ J p.2.1 = some (.tup (p.1.map kV))) ks ps →
    ∀ {kvs : List (List Key × V)} {xs : List (List Key × Addr × Value)} {ds es : List (D × D)}, KT J kvs xs → DTs K F kvs ds → DTs K F (ks.map fun q => (q.1, q.2.2)) es →
      ∃ ms, KT J ms (storedAllH xs ps) ∧ DTs K F ms (dmerge ds es) ∧ ms.length ≤ kvs.length + ks.length
  | _, _, .nil, kvs, xs, ds, es, r, t, u => by cases u; exact ⟨kvs, r, t, by simp⟩
  | _, _, .cons h p, kvs, xs, ds, es, r, t, u => by
    rename_i k q ks qs
    obtain ⟨h1, h2, h3, h4⟩ := h
    obtain ⟨k1, b1, v1⟩ := k
    obtain ⟨k2, b2, v2⟩ := q
    simp only at h1 h2 h3 h4
    subst h1 h2
    cases u with
    | cons hv u =>
      obtain ⟨ms, g1, g2, g3⟩ := kt_merge p (r.put k1 h4 h3) (t.put k1 hv) u
      refine ⟨ms, g1, g2, ?_⟩
      have := length_putK kvs k1 v1
      simp only [List.length_cons]
      omega
end
section
variable {X : Cx} {F H : Hp} {pn : List (Addr × Obj)} {σ : St} {s : Shared}
theorem pairedGetR {α β : Type} {R : α → β → Prop} : ∀ {l : List α} {m : List β} {i : Nat} {b : β}, Paired R l m → m[i]? = some b → ∃ a, l[i]? = some a ∧ R a b
  | _, _, _, _, .nil, e => by simp at e
  | _, _, 0, _, .cons r _, e => by simp at e; subst e; exact ⟨_, rfl, r⟩
  | _, _, i + 1, _, .cons _ t, e => by
    obtain ⟨b, h1, h2⟩ := pairedGetR (i := i) t (by simpa using e)
    exact ⟨b, by simpa using h1, h2⟩
theorem raw_pairs (I : Inv X pn σ H s) (sb : Sub F H) : ∀ {as : List Addr} {ks : List (List Key × Addr × V)}, Paired (fun p kv => F p = some (.tup [.ref kv.2.1, kv.2.2]) ∧ F kv.2.1 = some (.tup (kv.1.map kV))) as ks →
    ∃ rs : List (List Key × Addr × Value), Paired (fun p q => p.1 = q.1 ∧ p.2.1 = q.2.1 ∧ RelV p.2.2 q.2.2 ∧ F p.2.1 = some (.tup (p.1.map kV))) ks rs ∧ ∀ (j : Nat) b r, as[j]? = some b → rs[j]? = some r → s.heap.IsTuple b #[.ref r.2.1, r.2.2]
  | _, _, .nil => ⟨[], .nil, fun j b r e => by simp at e⟩
  | _, _, .cons (a := p) (b := kv) h t => by
    obtain ⟨rs, q1, q2⟩ := raw_pairs I sb t
    obtain ⟨its, rv, ht, _⟩ := I.tuple (SqT.of (K := X.K) (sb _ _ h.1))
    obtain ⟨u, y, ei, ru, ry⟩ := vals2 rv
    subst ei
    cases (show u = Value.ref kv.2.1 from ru)
    refine ⟨(kv.1, kv.2.1, y) :: rs, .cons ⟨rfl, rfl, ry, h.2⟩ q1, fun j b r e1 e2 => ?_⟩
    cases j with
    | zero =>
      simp at e1 e2
      subst e1 e2
      exact ht
    | succ j => exact q2 j b r (by simpa using e1) (by simpa using e2)
/-- dict(pairs) -/
theorem dict_pairs (hu : X.A.units + 64 < cLine) (hc : X.calm = true) (I : Inv X pn σ H s) (sb : Sub F H) {a : Addr} {xs : List V} {ps : List D} {kvs : List (D × D)} {Q : VK} (h : H a = some (.lst xs)) (t : DPs X.K F xs ps) (e : pairsOf ps = some kvs) (ok : oneKind (kvs.map (·.1)) = true)
    (g : Gives X.K F H (.fr (.dict (dmerge [] kvs))) Q) : wpAny (model X.prog X.w) X.A (call (.type "dict") [.ref a]) (EP X pn σ Q) X.xe s := by
  unfold oneKind at ok
  rw [Bool.or_eq_true] at ok
  rcases ok with ok | ok
  · obtain ⟨as, ks, rfl, h2, h3⟩ := pairs_flat t e ok
    refine call_dictP hc pn s σ H [.ref a] [.ref a] Q I (.cons rfl .nil) ⟨a, as, ks, rfl, SqL.of h, L2.Paired.mapP h2 fun p q z => sb.sqT z, fun p np => g3 g sb p _ np (.dk upd_same (h3.mergeR .nil))⟩
  · obtain ⟨as, ks, rfl, h2, h3⟩ := pairs_tup t e ok
    obtain ⟨its, rv, pl, hz⟩ := I.list (SqL.of h)
    rw [List.length_map] at hz
    have hu' : X.A.in1.in1.units < cLine := by show X.A.units + 2 < cLine; omega
    have ei := refs_at rv
    subst ei
    obtain ⟨rs, r1, r2⟩ := raw_pairs I sb h2
    have hal : as.length = ks.length := Paired.length h2
    have hrl : ks.length = rs.length := Paired.length r1
    have getA : ∀ j, j < rs.length → as[j]? = some (as.getD j 0) := fun j hj => by
      rw [List.getD_eq_getElem?_getD, List.getElem?_eq_getElem (show j < as.length by omega)]; rfl
    refine call_dict_pairsH (knd := tupleKind (mixKind X.prog X.w)) (ps := rs) (PairArg.list a (as.map Value.ref).toArray (fun j => as.getD j 0) (rs.map fun r => (Value.ref r.2.1, r.2.2))) (I.ok.hd hc) hu' ⟨pl, by rw [List.size_toArray, List.length_map, List.length_map]; omega, fun j k v e => ?_⟩ ⟨by rw [List.length_map], fun i key v e => ?_⟩ (fun h' hk x hx => ?_) (by simp only [List.length_map]; omega) fun h' tk hd' hk => ?_
    · rw [List.getElem?_map] at e
      cases w : rs[j]? with
      | none => rw [w] at e; cases e
      | some r =>
        rw [w] at e
        cases e
        have hj := (List.getElem?_eq_some_iff.mp w).1
        have ga := getA j hj
        refine ⟨by rw [List.getElem?_toArray, List.getElem?_map, ga]; rfl, ?_⟩
        exact .inl (r2 j _ r ga w)
    · have e' : (rs.map fun r => (Value.ref r.2.1, r.2.2))[i]? = some (key, v) := e
      rw [List.getElem?_map] at e'
      cases w : rs[i]? with
      | none => rw [w] at e'; cases e'
      | some r =>
        rw [w] at e'
        cases e'
        exact ⟨r.1, r.2.1, rfl, rfl⟩
    · obtain ⟨j, hj⟩ := List.mem_iff_getElem?.mp hx
      obtain ⟨q, hq, z1, z2, z3, z4⟩ := pairedGetR r1 hj
      have kk : (tupleKind (mixKind X.prog X.w)).is s.heap x.1 x.2.1 := by
        rw [← z1, ← z2]
        exact key_of I.hok (sb _ _ z4)
      exact tupleKind_stays.stays (fun b ob vs n e1 e2 => hk b ob (Nat.ne_of_lt (Heap.lt_size e1)) (by simp) e1) kk
    · obtain ⟨ms, m1, m2, m3⟩ := kt_merge (J := upd H s.heap.objs.size (.dT [])) (ks := ks) (ps := rs) (L2.Paired.mapP r1 fun p q z => ⟨z.1, z.2.1, z.2.2.1, by
        rw [upd_ne (ne_of_none (sb _ _ z.2.2.2) (I.hok.fresh (Nat.le_refl _)))]; exact sb _ _ z.2.2.2⟩) (kvs := []) (xs := []) (ds := []) .nil .nil h3
      have hm : (s.heap.objs.size == sysModules) = false := beq_eq_false_iff_ne.mpr (Nat.ne_of_gt I.big)
      obtain ⟨o, es, ep, q1, q2, q3, q4, _, q6⟩ := hd'
      refine ⟨.ref s.heap.objs.size, upd H s.heap.objs.size (.dT ms), I.laid (t' := tk) (fun b o e => hk b o (by simp) e) (Nat.le_refl _) ⟨?_, hm, _, L2.Paired.mapP m1 fun p q z => ⟨z.1, ?_, z.2.2⟩, o, es, ep, q1, q2, q3, q4, q6⟩, rfl, g3 g sb _ _ (I.hok.fresh (Nat.le_refl _)) (.dt upd_same m2)⟩
      · simp only [List.length_nil, Nat.zero_add] at m3
        omega
      · have zz := z.2.1
        by_cases hb : q.2.1 = s.heap.objs.size
        · rw [hb, upd_same] at zz; cases zz
        · rw [upd_ne hb] at zz ⊢; exact zz
end
end PI

set_option Elab.async false
set_option linter.all false
set_option maxRecDepth 100000
set_option maxHeartbeats 4000000
/-! PIi: the built-in functions, all of them. -/
namespace PI
set_option autoImplicit false
open PySem PySem.Spec PySem.W L2
open PyProof.Rows hiding St

section
variable {X : Cx} {F H : Hp} {pn : List (Addr × Obj)} {σ : St} {s : Shared}
theorem mm_facts {x : D} {xs : List D} (h : (allAlike (x :: xs) && !isNone x && decide (PyData.depthAll (x :: xs) ≤ 16)) = true) : AlikeAll (x :: xs) ∧ PyData.depthAll (x :: xs) ≤ 16 ∧ (∀ a ∈ x :: xs, ∀ b ∈ x :: xs, alike a b = true) := by
  simp only [Bool.and_eq_true, decide_eq_true_eq] at h
  obtain ⟨⟨h1, h2⟩, h3⟩ := h
  have hal : ∀ a ∈ x :: xs, ∀ b ∈ x :: xs, alike a b = true := by
    simp only [allAlike, List.all_eq_true] at h1
    exact h1
  refine ⟨⟨hal, fun a ha q => ?_⟩, h3, hal⟩
  subst q
  have := hal _ ha x (List.mem_cons_self ..)
  cases x <;> first | (simp [alike] at this; done) | simp [isNone] at h2
mutual
theorem alike_plain : ∀ (d : D), alike d d = true → d.plain = true
  | .none, _ => rfl
  | .bool _, _ => rfl
  | .int _, _ => rfl
  | .str _, _ => rfl
  | .list xs, h => by rw [PyData.plain]; exact alikeAll_plain xs (by simpa [alike] using h)
  | .tuple xs, h => by rw [PyData.plain]; exact alikeAll_plain xs (by simpa [alike] using h)
  | .dict _, h => by simp [alike] at h
theorem alikeAll_plain : ∀ (ds : List D), alikeAll ds ds = true → PyData.plainAll ds = true
  | [], _ => rfl
  | x :: xs, h => by
    simp only [alikeAll, Bool.and_eq_true] at h
    rw [PyData.plainAll, alike_plain x h.1, alikeAll_plain xs h.2]; rfl
end
theorem foldSel_mem (f : D → D → Bool) : ∀ (xs : List D) (x : D), xs.foldl (fun a y => if f a y then y else a) x ∈ x :: xs
  | [], x => List.mem_cons_self ..
  | y :: ys, x => by
    rw [List.foldl_cons]
    have := foldSel_mem f ys (if f x y then y else x)
    rcases List.mem_cons.mp this with e | e
    · rw [e]
      split
      · exact List.mem_cons_of_mem _ (List.mem_cons_self ..)
      · exact List.mem_cons_self ..
    · exact List.mem_cons_of_mem _ (List.mem_cons_of_mem _ e)
/-- an item that reads as one of alike data is that item -/
theorem pick_dp (I : Inv X pn σ H s) (sb : Sub F H) {vs : List V} {us : List Value} {ds : List D} (t : DPs X.K F vs ds) (rv : Vals vs us) (hal : ∀ a ∈ ds, ∀ b ∈ ds, alike a b = true) {i : Nat} {v : Value} {e : D} (hv : us[i]? = some v) (he : e ∈ ds) {bs : List Addr} (r : Reads s.heap v e bs) : ∃ y, RelV y v ∧ DP X.K F y e := by
  have hi : i < vs.length := by rw [rv.length]; exact (List.getElem?_eq_some_iff.mp hv).1
  obtain ⟨d, hd, dp⟩ := t.getV (List.getElem?_eq_getElem hi)
  obtain ⟨u, hu, ru⟩ := rv.get (List.getElem?_eq_getElem hi)
  rw [hv] at hu
  cases hu
  have hm : d ∈ ds := List.mem_of_getElem? hd
  have pl := alike_plain d (hal d hm d hm)
  obtain ⟨as, rd⟩ := Dp.reads I _ _ _ ((dp.sub sb).toDp pl) ru
  have := alike_unique d e _ _ _ (hal d hm e he) rd r
  subst this
  exact ⟨_, ru, dp⟩
theorem cr_mm (hu : X.A.units + 64 < cLine) (hc : X.calm = true) (I : Inv X pn σ H s) (sb : Sub F H) {v : V} {u : Value} {d x : D} {xs : List D} {Q : VK} (h : Cn X.K F H v d) (rv : RelV v u) (e : seqOf d = some (x :: xs)) (hf : (allAlike (x :: xs) && !isNone x && decide (PyData.depthAll (x :: xs) ≤ 16)) = true) :
    (Gives X.K F H (.sh (minD x xs)) Q → wpAny (model X.prog X.w) X.A (call (.builtin "min") [u]) (EP X pn σ Q) X.xe s) ∧ (Gives X.K F H (.sh (maxD x xs)) Q → wpAny (model X.prog X.w) X.A (call (.builtin "max") [u]) (EP X pn σ Q) X.xe s) := by
  obtain ⟨ha, hd, hal⟩ := mm_facts hf
  obtain ⟨a, ys, rfl, t, cs⟩ := h.seq e sb
  cases (show u = Value.ref a from rv)
  have pl : PyData.plainAll (x :: xs) = true := plain_all.mpr fun d hd => alike_plain d (hal d hd d hd)
  have hh := I.ok.hd hc
  have fin : ∀ (its : List Value), Vals ys its → ∀ (m : D), m ∈ x :: xs → Gives X.K F H (.sh m) Q → ∀ (i : Nat) (w : Value) (h' : Heap) (tk : Nat) (bs : List Addr), its.toArray[i]? = some w → Reads h' w m bs → (∀ b o, s.heap.get? b = some o → h'.get? b = some o) → EP X pn σ Q w { s with heap := h', toks := tk } := fun its rv m hm g i w h' tk bs q1 q2 q3 => by
    have I' : Inv X pn σ H { s with heap := h', toks := tk } := I.kept q3
    obtain ⟨y, r1, r2⟩ := pick_dp I' sb t rv hal (by simpa using q1) hm q2
    exact ⟨y, H, I', r1, g1 g sb _ r2⟩
  have hmin : minD x xs ∈ x :: xs := foldSel_mem (fun a y => dataLt y a) xs x
  have hmax : maxD x xs ∈ x :: xs := foldSel_mem (fun a y => dataLt a y) xs x
  rcases cs with ⟨hH, _⟩ | ⟨hF, _⟩
  · obtain ⟨its, rv', hl, hz⟩ := I.list (SqL.of (K := X.K) hH)
    obtain ⟨as, ra⟩ := reads_all I sb t pl rv'
    exact ⟨fun g => PySem.W.min_list_data hh hl.isList (by simpa using ra) ha (by omega) (fin its rv' _ hmin g), fun g => PySem.W.max_list_data hh hl.isList (by simpa using ra) ha (by omega) (fin its rv' _ hmax g)⟩
  · obtain ⟨its, rv', hl, hz⟩ := I.tuple (SqT.of (K := X.K) (sb _ _ hF))
    obtain ⟨as, ra⟩ := reads_all I sb t pl rv'
    exact ⟨fun g => PySem.W.min_tuple_data hh hl (by simpa using ra) ha (by omega) (fin its rv' _ hmin g), fun g => PySem.W.max_tuple_data hh hl (by simpa using ra) ha (by omega) (fin its rv' _ hmax g)⟩

theorem rv_ints {vs : List V} {us : List Value} {ns : List Int} (e : vs = ns.map V.int) (rv : Vals vs us) : IntsAre us ns := by
  subst e
  exact rv.ints
theorem sum_tup (I : Inv X pn σ H s) (hc : X.calm = true) {a : Addr} {xs : List V} {ns : List Int} (h : H a = some (.tup xs)) (e : xs = ns.map V.int) {Q : VK} (q : Q (.int ns.sum) H) : wpAny (model X.prog X.w) X.A (call (.builtin "sum") [.ref a]) (EP X pn σ Q) X.xe s := by
  obtain ⟨its, rv, hl, hz⟩ := I.tuple (SqT.of (K := X.K) h)
  have hi := rv_ints e rv
  obtain ⟨ws, ew⟩ := hi.allInts.items
  have hn : numsOf (intItems ws).toList = ns := by rw [← ew]; exact hi.numsOf
  rw [nums_intItems] at hn
  rw [ew] at hl
  refine PySem.W.ktm_sumG (I.ok.hd hc) hl fun h' tk t' hk => ?_
  rw [preSum_eq, List.take_of_length_le (by simp), hn]
  exact ⟨.int _, H, I.kept hk, ⟨_, rfl⟩, q⟩
/-- sorted(t) -/
theorem cr_srt_tup (hu : X.A.units + 64 < cLine) (I : Inv X pn σ H s) (sb : Sub F H) {a : Addr} {xs : List V} {ds es : List D} {Q : VK} (h : F a = some (.tup xs)) (t : DPs X.K F xs ds) (e : srtEv ds = some es) (g : Gives X.K F H (.fr (.list es)) Q) :
    wpAny (model X.prog X.w) X.A (call (.builtin "sorted") [.ref a]) (EP X pn σ Q) X.xe s := by
  refine Calls.call_function_entry PyProof.Rows.kind_sorted PyProof.Rows.plain_sorted PyProof.Rows.entry_sorted (PyProof.Rows.args_sorted1 _) ?_
  unfold Builtin.«sorted»
  refine wpAny_bind (m := checkCount "sorted" 1 1 _) (wpAny_pure ?_)
  obtain ⟨its, rv, ⟨o, ho, hcl, n, hd⟩, hz⟩ := I.tuple (SqT.of (K := X.K) (sb _ _ h))
  have hz' : its.toArray.size ≤ sizeLine := by rw [List.size_toArray, ← rv.length]; exact hz
  refine wpAny_bind (wpAny_collect_seq (A := X.A.in1) a (.inr rfl) ho hcl hd (fun h' hk => ?_) hz')
  have I1 : Inv X pn σ H { s with heap := h' } := I.kept (t' := s.toks) hk
  refine srt_tail (F' := F) hu I1 ?_ ?_ hz' e fun p o q w => g3 g sb p o q w
  · exact each_reads I1 sb t (fun d hd => okD_plain ((srt_facts e).2.1 d hd).2) rv
  · exact each_dp t rv
theorem cns_nil {vs : List V} (h : Cns X.K F H vs []) : vs = [] := by cases h; rfl
theorem cr_bi (hu : X.A.units + 64 < cLine) (hc : X.calm = true) (f : Bi) (hf : ∀ ts, f ≠ .isi ts) : CallR X (biV f) (rB X.K f) := by
  intro pn s σ H xs us Q I r h
  obtain ⟨F, ds, res, sb, hx, e, g⟩ := h
  cases f with
  | len =>
    cases hx with
    | nil => cases e
    | cons h1 h2 =>
      cases h2 with
      | cons _ _ => cases h1 <;> cases e
      | nil =>
        cases h1 <;> simp only [biEv] at e <;> try (cases e; done)
        · rename_i a ys es ha t
          cases e
          exact call_len_seq pn s σ H _ us Q I r ⟨a, ys, rfl, .inl (SqL.of ha), by rw [t.len]; exact gives_int g sb⟩
        · rename_i a ys es ha t
          cases e
          exact call_len_seq pn s σ H _ us Q I r ⟨a, ys, rfl, .inr (SqT.of (sb _ _ ha)), by rw [t.len]; exact gives_int g sb⟩
        · rename_i a ys es ha t
          split at e
          · cases e
            exact call_lenD pn s σ H _ us Q I r ⟨a, ys, rfl, ha, by rw [t.len]; exact gives_int g sb⟩
          · cases e
        · rename_i a ys es ha t
          split at e
          · cases e
            exact call_len_dT pn s σ H _ us Q I r ⟨a, ys, rfl, ha, by rw [t.len]; exact gives_int g sb⟩
          · cases e
  | sum =>
    cases hx with
    | nil => cases e
    | cons h1 h2 =>
      cases h2 with
      | cons _ _ => cases e
      | nil =>
        rename_i v d
        simp only [biEv] at e
        cases q1 : seqOf d with
        | none => rw [q1] at e; cases e
        | some ys =>
          rw [q1] at e
          cases q2 : intsOf ys with
          | none => simp [q2] at e
          | some ns =>
            simp [q2] at e
            subst e
            obtain ⟨a, zs, rfl, t, cs⟩ := h1.seq q1 sb
            obtain ⟨e1, _⟩ := t.ints q2
            obtain ⟨u, rfl, ru⟩ := vals1 r
            cases (show u = Value.ref a from ru)
            rcases cs with ⟨hH, _⟩ | ⟨hF, _⟩
            · exact cr_sum hc pn s σ H _ _ Q I r ⟨a, ns, rfl, by rw [← e1]; exact SqL.of hH, gives_int g sb⟩
            · exact sum_tup I hc (sb _ _ hF) e1 (gives_int g sb)
  | mn =>
    cases hx with
    | nil => cases e
    | cons h1 h2 =>
      cases h2 with
      | cons _ _ => cases e
      | nil =>
        rename_i v d
        simp only [biEv] at e
        split at e
        · rename_i x ys q1
          split at e
          · rename_i hf'
            cases e
            obtain ⟨u, rfl, ru⟩ := vals1 r
            exact (cr_mm hu hc I sb h1 ru q1 hf').1 g
          · cases e
        · cases e
  | mx =>
    cases hx with
    | nil => cases e
    | cons h1 h2 =>
      cases h2 with
      | cons _ _ => cases e
      | nil =>
        rename_i v d
        simp only [biEv] at e
        split at e
        · rename_i x ys q1
          split at e
          · rename_i hf'
            cases e
            obtain ⟨u, rfl, ru⟩ := vals1 r
            exact (cr_mm hu hc I sb h1 ru q1 hf').2 g
          · cases e
        · cases e
  | mn2 =>
    cases hx with
    | nil => cases e
    | cons h1 h2 =>
      cases h2 with
      | nil => cases h1 <;> cases e
      | cons h2 h3 =>
        cases h3 with
        | cons _ _ => cases h1 <;> cases h2 <;> cases e
        | nil =>
          cases h1 <;> cases h2 <;> simp only [biEv] at e <;> try (cases e; done)
          cases e
          exact call_min2 hc pn s σ H _ us Q I r ⟨_, _, rfl, gives_int g sb⟩
  | mx2 =>
    cases hx with
    | nil => cases e
    | cons h1 h2 =>
      cases h2 with
      | nil => cases h1 <;> cases e
      | cons h2 h3 =>
        cases h3 with
        | cons _ _ => cases h1 <;> cases h2 <;> cases e
        | nil =>
          cases h1 <;> cases h2 <;> simp only [biEv] at e <;> try (cases e; done)
          cases e
          exact call_max2 hc pn s σ H _ us Q I r ⟨_, _, rfl, gives_int g sb⟩
  | srt =>
    cases hx with
    | nil => cases e
    | cons h1 h2 =>
      cases h2 with
      | cons _ _ => cases h1 <;> cases e
      | nil =>
        obtain ⟨u, rfl, ru⟩ := vals1 r
        cases h1 <;> simp only [biEv] at e <;> try (cases e; done)
        · rename_i a ys es ha t
          obtain ⟨zs, e1, e2⟩ := Option.map_eq_some_iff.mp e
          subst e2
          cases (show u = Value.ref a from ru)
          exact cr_srt_list hu I sb ha t e1 g
        · rename_i a ys es ha t
          obtain ⟨zs, e1, e2⟩ := Option.map_eq_some_iff.mp e
          subst e2
          cases (show u = Value.ref a from ru)
          exact cr_srt_tup hu I sb ha t e1 g
        · rename_i a ys es ha t
          split at e
          · rename_i hk
            obtain ⟨zs, e1, e2⟩ := Option.map_eq_some_iff.mp e
            subst e2
            cases (show u = Value.ref a from ru)
            exact cr_srt_dict hu hc I sb (.dk ha t) hk e1 g
          · cases e
        · rename_i a ys es ha t
          split at e
          · rename_i hk
            obtain ⟨zs, e1, e2⟩ := Option.map_eq_some_iff.mp e
            subst e2
            cases (show u = Value.ref a from ru)
            exact cr_srt_dict hu hc I sb (.dt ha t) hk e1 g
          · cases e
  | tup =>
    cases hx with
    | nil => cases e
    | cons h1 h2 =>
      cases h2 with
      | cons _ _ => cases e
      | nil =>
        simp only [biEv] at e
        obtain ⟨ys, q1, q2⟩ := Option.map_eq_some_iff.mp e
        subst q2
        obtain ⟨a, zs, rfl, t, cs⟩ := h1.seq q1 sb
        rcases cs with ⟨hH, _⟩ | ⟨hF, _⟩
        · exact call_tuple_of pn s σ H _ us Q I r ⟨a, zs, rfl, .inl ⟨SqL.of hH, fun l nl => g2 g sb _ l _ nl (.tup upd_same (t.sub (Sub.allocM sb nl)))⟩⟩
        · exact call_tuple_of pn s σ H _ us Q I r ⟨a, zs, rfl, .inr ⟨SqT.of (sb _ _ hF), g1 g sb _ (.tup hF t)⟩⟩
  | lst =>
    cases hx with
    | nil => cases e
    | cons h1 h2 =>
      cases h2 with
      | cons _ _ => cases e
      | nil =>
        simp only [biEv] at e
        obtain ⟨ys, q1, q2⟩ := Option.map_eq_some_iff.mp e
        subst q2
        obtain ⟨a, zs, rfl, t, cs⟩ := h1.seq q1 sb
        rcases cs with ⟨hH, _⟩ | ⟨hF, _⟩
        · exact call_list_of pn s σ H _ us Q I r ⟨a, zs, rfl, .inl (SqL.of hH), fun l nl => g3 g sb l _ nl (.lst upd_same t)⟩
        · exact call_list_of pn s σ H _ us Q I r ⟨a, zs, rfl, .inr (SqT.of (sb _ _ hF)), fun l nl => g3 g sb l _ nl (.lst upd_same t)⟩
  | dic =>
    cases hx with
    | nil => cases e
    | cons h1 h2 =>
      cases h2 with
      | cons _ _ => cases h1 <;> cases e
      | nil =>
        cases h1 <;> simp only [biEv] at e <;> try (cases e; done)
        rename_i a ys es ha t
        cases q1 : pairsOf es with
        | none => rw [q1] at e; cases e
        | some kvs =>
          rw [q1] at e
          simp only [Option.bind_some] at e
          split at e
          · rename_i hk
            cases e
            obtain ⟨u, rfl, ru⟩ := vals1 r
            cases (show u = Value.ref a from ru)
            exact dict_pairs hu hc I sb ha t q1 hk g
          · cases e
  | abs =>
    cases hx with
    | nil => cases e
    | cons h1 h2 =>
      cases h2 with
      | cons _ _ => cases h1 <;> cases e
      | nil =>
        cases h1 <;> simp only [biEv] at e <;> try (cases e; done)
        cases e
        exact call_abs pn s σ H _ us Q I r ⟨_, rfl, gives_int g sb⟩
  | int =>
    cases hx with
    | nil => cases e
    | cons h1 h2 =>
      cases h2 with
      | cons _ _ => cases h1 <;> cases e
      | nil =>
        cases h1 <;> simp only [biEv] at e <;> try (cases e; done)
        cases e
        exact call_int1 pn s σ H _ us Q I r (.inl ⟨_, rfl, gives_int g sb⟩)
  | any =>
    cases hx with
    | nil => cases e
    | cons h1 h2 =>
      cases h2 with
      | cons _ _ => cases h1 <;> cases e
      | nil =>
        cases h1 <;> simp only [biEv] at e <;> try (cases e; done)
        rename_i a ys es ha t
        obtain ⟨bs, q1, q2⟩ := Option.map_eq_some_iff.mp e
        subst q2
        exact cr_any hc pn s σ H _ us Q I r ⟨a, bs, rfl, by rw [← t.bols q1]; exact SqL.of ha, gives_bool g sb⟩
  | all =>
    cases hx with
    | nil => cases e
    | cons h1 h2 =>
      cases h2 with
      | cons _ _ => cases h1 <;> cases e
      | nil =>
        cases h1 <;> simp only [biEv] at e <;> try (cases e; done)
        rename_i a ys es ha t
        obtain ⟨bs, q1, q2⟩ := Option.map_eq_some_iff.mp e
        subst q2
        exact cr_all hc pn s σ H _ us Q I r ⟨a, bs, rfl, by rw [← t.bols q1]; exact SqL.of ha, gives_bool g sb⟩
  | isi ts => exact absurd rfl (hf ts)
end
end PI

set_option Elab.async false
set_option linter.all false
set_option maxRecDepth 100000
set_option maxHeartbeats 4000000
/-! PIj: subscripts, slices, methods. -/
namespace PI
set_option autoImplicit false
open PySem PySem.Spec PySem.W L2
open PyProof.Rows hiding St

theorem placeOf_ixN (n : Nat) (i : Int) : placeOf n i = ixN n i := by
  unfold placeOf ixN
  by_cases h : 0 ≤ i
  · rw [if_pos h, if_pos h]
  · rw [if_neg h, if_neg h]
    by_cases h2 : -(n : Int) ≤ i
    · rw [if_pos h2, if_pos h2]
      congr 1
      omega
    · rw [if_neg h2, if_neg h2]
def rIxA (K : PySem.W.Frag) : R2 := fun x y H Q => ∃ F dx dy d, Sub F H ∧ Cn K F H x dx ∧ Cn K F H y dy ∧ ixEv dx dy = some d ∧ ∀ v, DP K F v d → Q v H
section
variable {X : Cx} {F H : Hp} {K : PySem.W.Frag}
theorem at_get {xs : List V} {ds : List D} {i : Int} {d : D} (t : DPs K F xs ds) (e : ((placeOf ds.length i).bind fun j => ds[j]?) = some d) : ∃ v, atI xs i = some v ∧ DP K F v d := by
  rw [placeOf_ixN, ← t.len] at e
  unfold atI
  cases q : ixN xs.length i with
  | none => rw [q] at e; cases e
  | some j =>
    rw [q] at e
    exact t.get e
theorem ix_all (hu : X.A.units + 1 < cLine) : IxR X (rIxA X.K) := by
  intro value slice pn s σ H x y v u Q I rx ry h hs
  obtain ⟨F, dx, dy, d, sb, hx, hy, e, g⟩ := h
  cases hx with
  | non => cases e
  | bl _ => cases e
  | int _ => cases e
  | str _ => cases e
  | lst h1 h2 =>
    cases hy <;> simp only [ixEv] at e <;> try (cases e; done)
    obtain ⟨w, e1, e2⟩ := at_get h2 e
    exact ix_list value slice pn s σ H _ _ v u Q I rx ry ⟨_, _, _, w, rfl, rfl, SqL.of h1, e1, g w e2⟩ hs
  | tup h1 h2 =>
    cases hy <;> simp only [ixEv] at e <;> try (cases e; done)
    obtain ⟨w, e1, e2⟩ := at_get h2 e
    exact ix_tup value slice pn s σ H _ _ v u Q I rx ry ⟨_, _, _, w, rfl, rfl, SqT.of (sb _ _ h1), e1, g w e2⟩ hs
  | scr h1 h2 =>
    simp only [ixEv] at e
    split at e
    · rename_i hc
      simp [keyOk, flatK, tupK] at hc
    · cases e
  | dk h1 h2 =>
    simp only [ixEv] at e
    split at e
    · rename_i hc
      cases (show v = Value.ref _ from rx)
      obtain ⟨z, hd, vs, rel, dd⟩ := dk_rd I.hok (.inl h1)
      exact tail_any dd.typeIs PySem.F.slot_dict_getitem.lookup (dgetI hu I sb (.dk h1 h2) hy hc e ry fun w u' s' I' r' dp => ⟨w, H, I', r', g w dp⟩) hs
    · cases e
  | dt h1 h2 =>
    simp only [ixEv] at e
    split at e
    · rename_i hc
      cases (show v = Value.ref _ from rx)
      obtain ⟨z, hd, xs, rel, dd⟩ := dt_rd I.hok (.inl h1)
      exact tail_any dd.typeIs PySem.F.slot_dict_getitem.lookup (dgetI hu I sb (.dt h1 h2) hy hc e ry fun w u' s' I' r' dp => ⟨w, H, I', r', g w dp⟩) hs
    · cases e

/-! ### slices -/
theorem cutD_eq (xs : List V) (ds : List D) (lo hi : Option Int) (h : xs.length = ds.length) (t : DPs K F xs ds) : DPs K F (cutV xs lo hi) (cutD ds lo hi) := by
  have f : ∀ (d : Nat) (o : Option Int), HT.sIx xs.length d o = (match o with
    | none => d
    | some i => if 0 ≤ i then min i.toNat ds.length else ds.length - (-i).toNat) := by
    intro d o
    cases o with
    | none => rfl
    | some i =>
      show (if i < 0 then (i + (xs.length : Int)).toNat else min i.toNat xs.length) = _
      by_cases hi : 0 ≤ i
      · rw [if_neg (by omega)]
        simp only [hi, if_true]
        rw [h]
      · rw [if_pos (by omega)]
        simp only [hi, if_false]
        omega
  unfold cutV cutD
  rw [f 0 lo, f xs.length hi, h]
  exact (t.dropN _).takeN _
def rSlA' (K : PySem.W.Frag) : V → Option Int → Option Int → Hp → VK → Prop := fun x lo hi H Q => ∃ F dx r, Sub F H ∧ Cn K F H x dx ∧ slEv dx ((lo.map PyData.int).getD .none) ((hi.map PyData.int).getD .none) = some r ∧ Gives K F H r Q
theorem part_get (lo : Option Int) : partOf ((lo.map PyData.int).getD .none) = some lo := by cases lo <;> rfl
theorem sl_all : SlR X (rSlA' X.K) := by
  intro pn s σ H x v vl vu lo hi sl Q I rx hs pl pu h
  obtain ⟨F, dx, r, sb, hx, e, g⟩ := h
  unfold slEv at e
  rw [part_get, part_get] at e
  simp only [Option.bind_some] at e
  cases hx with
  | non => cases e
  | bl _ => cases e
  | int _ => cases e
  | str _ => cases e
  | lst h1 h2 =>
    cases e
    exact sl_list pn s σ H _ v vl vu lo hi sl Q I rx hs pl pu ⟨_, _, rfl, SqL.of h1, fun p np => g3 g sb p _ np (.lst upd_same (cutD_eq _ _ lo hi h2.len h2))⟩
  | tup h1 h2 =>
    cases e
    refine sl_tupA pn s σ H _ v vl vu lo hi sl Q I rx hs pl pu ⟨_, _, rfl, SqT.of (sb _ _ h1), fun z => ?_, fun z p np => ?_⟩
    · refine g1 g sb _ (.tup h1 ?_)
      have q := cutD_eq _ _ lo hi h2.len h2
      unfold cutV at q
      rw [z.1, z.2] at q
      simpa using q
    · exact g2 g sb _ p _ np (.tup upd_same ((cutD_eq _ _ lo hi h2.len h2).sub (Sub.allocM sb np)))
  | scr h1 h2 =>
    cases e
    exact sl_list pn s σ H _ v vl vu lo hi sl Q I rx hs pl pu ⟨_, _, rfl, h1, fun p np => g3 g sb p _ np (.lst upd_same (cutD_eq _ _ lo hi h2.len h2))⟩
  | dk h1 h2 =>
    cases h2 with
    | nil => cases e
    | cons a b => rename_i k v r d ds; cases k <;> cases e
  | dt h1 h2 =>
    cases h2 with
    | nil => cases e
    | cons a b => cases e

/-! ### methods that read -/
/-- .. of a list alone -/
def rMl (K : PySem.W.Frag) (m : Mt) : V → List V → Hp → VK → Prop := fun x xs H Q => ∃ F zs ds r, Sub F H ∧ Cn K F H x (.list zs) ∧ Cns K F H xs ds ∧ meEv m (.list zs) ds = some r ∧ Gives K F H r Q
def rMt (K : PySem.W.Frag) (m : Mt) : V → List V → Hp → VK → Prop := fun x xs H Q => ∃ F zs ds r, Sub F H ∧ Cn K F H x (.tuple zs) ∧ Cns K F H xs ds ∧ meEv m (.tuple zs) ds = some r ∧ Gives K F H r Q
theorem okD_list {ds : List D} (h : okD (.list ds) = true) : PyData.plainAll ds = true := by simpa [PyData.plain] using okD_plain h
theorem okD_tuple {ds : List D} (h : okD (.tuple ds) = true) : PyData.plainAll ds = true := by simpa [PyData.plain] using okD_plain h
theorem mt_countL (hu : X.A.units + 64 < cLine) : MtR X "list.count" (rMl X.K .count) := by
  intro pn s σ H x xs v us Q I rx rv h
  obtain ⟨F, zs, ds, r, sb, hx, hd, e, g⟩ := h
  cases hd with
  | nil => cases e
  | cons a b =>
    cases b with
    | cons _ _ => cases e
    | nil =>
      rename_i y d
      simp only [meEv, seqOf, Option.bind_some] at e
      split at e
      · rename_i hc
        cases e
        rw [Bool.and_eq_true] at hc
        obtain ⟨u, rfl, ru⟩ := vals1 rv
        obtain ⟨bs, rb⟩ := a.reads I sb (okD_plain hc.1) ru
        cases hx with
        | lst h1 h2 =>
          rename_i l ys
          cases (show v = Value.ref l from rx)
          obtain ⟨its, rv', hl, hz⟩ := I.list (SqL.of (K := X.K) h1)
          obtain ⟨as, ra⟩ := reads_all I sb h2 (okD_list hc.2) rv'
          have q := okD_depth hc.1
          have q2 := Nat.min_le_right (PyData.depthAll zs) d.depth
          exact SeqAt.count_list_data hl.isList (by simpa using ra) rb (okD_list hc.2) (okD_plain hc.1) (by omega) ⟨.int _, H, I.tok _, ⟨_, rfl⟩, gives_int g sb⟩
      · cases e
theorem mt_countT (hu : X.A.units + 64 < cLine) : MtR X "tuple.count" (rMt X.K .count) := by
  intro pn s σ H x xs v us Q I rx rv h
  obtain ⟨F, zs, ds, r, sb, hx, hd, e, g⟩ := h
  cases hd with
  | nil => cases e
  | cons a b =>
    cases b with
    | cons _ _ => cases e
    | nil =>
      rename_i y d
      simp only [meEv, seqOf, Option.bind_some] at e
      split at e
      · rename_i hc
        cases e
        rw [Bool.and_eq_true] at hc
        obtain ⟨u, rfl, ru⟩ := vals1 rv
        obtain ⟨bs, rb⟩ := a.reads I sb (okD_plain hc.1) ru
        cases hx with
        | tup h1 h2 =>
          rename_i l ys
          cases (show v = Value.ref l from rx)
          obtain ⟨its, rv', hl, hz⟩ := I.tuple (SqT.of (K := X.K) (sb _ _ h1))
          obtain ⟨as, ra⟩ := reads_all I sb h2 (okD_tuple hc.2) rv'
          have q := okD_depth hc.1
          have q2 := Nat.min_le_right (PyData.depthAll zs) d.depth
          exact SeqAt.count_tuple_data hl (by simpa using ra) rb (okD_tuple hc.2) (okD_plain hc.1) (by omega) ⟨.int _, H, I.tok _, ⟨_, rfl⟩, gives_int g sb⟩
      · cases e
end
end PI

set_option Elab.async false
set_option linter.all false
set_option maxRecDepth 100000
set_option maxHeartbeats 4000000
/-! PIk: methods that change the slot's own object. -/
namespace PI
set_option autoImplicit false
open PySem PySem.Spec PySem.W L2
open PyProof.Rows hiding St

/-- what a change leaves -/
def Chg (K : PySem.W.Frag) (F H : Hp) (a : Addr) (d c' : D) (Q : VK) : Prop := ∀ v o, DP K F v d → Top K F (upd H a o) a c' → Q v (upd H a o)
def rApp (K : PySem.W.Frag) : V → List V → Hp → VK → Prop := fun x vs H Q => ∃ F a c ds d c', Sub F H ∧ x = .ref a ∧ Top K F H a c ∧ DPs K F vs ds ∧ muEv .append c ds = some (d, c') ∧ Chg K F H a d c' Q
def rMu (K : PySem.W.Frag) (m : Mu) : V → List V → Hp → VK → Prop := fun x vs H Q => ∃ F a c ds d c', Sub F H ∧ F a = none ∧ x = .ref a ∧ Top K F H a c ∧ Cns K F H vs ds ∧ muEv m c ds = some (d, c') ∧ Chg K F H a d c' Q

def rUpd (K : PySem.W.Frag) : V → List V → Hp → VK → Prop := fun x vs H Q => ∃ F a c ds d c', Sub F H ∧ F a = none ∧ x = .ref a ∧ Top K F H a c ∧ DPs K F vs ds ∧ muEv .update c ds = some (d, c') ∧ Chg K F H a d c' Q

section
variable {X : Cx} {F H : Hp} {K : PySem.W.Frag}
theorem mu_append : MtM X "list.append" (rApp X.K) := by
  intro pn s σ H x vs v us Q I rx rv h
  obtain ⟨F, a, c, ds, d, c', sb, rfl, top, hd, e, g⟩ := h
  have hL := LIM_eq
  cases top with
  | dk _ _ => cases e
  | dt _ _ => cases e
  | lst h1 h2 =>
    rename_i xs es
    cases hd with
    | nil => cases e
    | cons a1 b1 =>
      cases b1 with
      | cons _ _ => cases e
      | nil =>
        simp only [muEv] at e
        split at e
        · rename_i hl
          cases e
          exact mt_append pn s σ H _ _ v us Q I rx rv ⟨a, xs, _, rfl, rfl, h1, by rw [h2.len, ← hL]; exact hl, g _ _ .non (.lst upd_same (h2.app (.cons a1 .nil)))⟩
        · cases e
theorem mu_extend : MtM X "list.extend" (rMu X.K .extend) := by
  intro pn s σ H x vs v us Q I rx rv h
  obtain ⟨F, a, c, ds, d, c', sb, hFa, rfl, top, hd, e, g⟩ := h
  have hL := LIM_eq
  cases top with
  | dk _ _ => cases hd with
    | nil => cases e
    | cons a1 b1 => cases b1 <;> cases a1 <;> cases e
  | dt _ _ => cases hd with
    | nil => cases e
    | cons a1 b1 => cases b1 <;> cases a1 <;> cases e
  | lst h1 h2 =>
    rename_i xs es
    cases hd with
    | nil => cases e
    | cons a1 b1 =>
      cases b1 with
      | cons _ _ => cases a1 <;> cases e
      | nil =>
        cases a1 <;> simp only [muEv] at e <;> try (cases e; done)
        rename_i l ys zs q1 q2
        split at e
        · rename_i hl
          cases e
          exact mt_extend pn s σ H _ _ v us Q I rx rv ⟨a, l, xs, ys, rfl, rfl, h1, q1, by rw [h2.len, q2.len, ← hL]; exact hl, g _ _ .non (.lst upd_same (h2.app q2))⟩
        · cases e
theorem DPs.dropL {vs : List V} {ds : List D} (t : DPs K F vs ds) : DPs K F vs.dropLast ds.dropLast := by
  rw [List.dropLast_eq_take, List.dropLast_eq_take, t.len]
  exact t.takeN _
theorem mu_pop : MtM X "list.pop" (rMu X.K .pop) := by
  intro pn s σ H x vs v us Q I rx rv h
  obtain ⟨F, a, c, ds, d, c', sb, hFa, rfl, top, hd, e, g⟩ := h
  cases top with
  | dk _ _ => cases e
  | dt _ _ => cases e
  | lst h1 h2 =>
    rename_i xs es
    cases hd with
    | cons a1 b1 => cases e
    | nil =>
      simp only [muEv] at e
      obtain ⟨y, e1, e2⟩ := Option.map_eq_some_iff.mp e
      cases e2
      rw [List.getLast?_eq_getElem?] at e1
      obtain ⟨w, e3, e4⟩ := h2.get e1
      rw [← h2.len] at e3
      exact mt_pop pn s σ H _ _ v us Q I rx rv ⟨a, xs, w, rfl, rfl, h1, e3, g _ _ e4 (.lst upd_same h2.dropL)⟩
theorem mu_popAt : MtM X "list.pop" (rMu X.K .popAt) := by
  intro pn s σ H x vs v us Q I rx rv h
  obtain ⟨F, a, c, ds, d, c', sb, hFa, rfl, top, hd, e, g⟩ := h
  cases top with
  | dk _ _ => cases hd with
    | nil => cases e
    | cons a1 b1 => cases b1 <;> cases a1 <;> cases e
  | dt _ _ => cases hd with
    | nil => cases e
    | cons a1 b1 => cases b1 <;> cases a1 <;> cases e
  | lst h1 h2 =>
    rename_i xs es
    cases hd with
    | nil => cases e
    | cons a1 b1 =>
      cases b1 with
      | cons _ _ => cases a1 <;> cases e
      | nil =>
        cases a1 <;> simp only [muEv] at e <;> try (cases e; done)
        rename_i i
        split at e
        · rename_i hi
          cases q : placeOf es.length i with
          | none => rw [q] at e; cases e
          | some j =>
            rw [q] at e
            simp only [Option.bind_some] at e
            obtain ⟨y, e1, e2⟩ := Option.map_eq_some_iff.mp e
            cases e2
            obtain ⟨w, e3, e4⟩ := h2.get e1
            rw [placeOf_ixN, ← h2.len] at q
            have q2 := (ixN_seq q).1
            exact mt_popAt pn s σ H _ _ v us Q I rx rv ⟨a, xs, i, j, w, rfl, rfl, h1, by omega, by omega, q2, e3, g _ _ e4 (.lst upd_same (h2.eraseN _))⟩
        · cases e
/-- a dict of tuple keys takes those of another one -/
theorem kt_mergeT {J : Hp} : ∀ {ms : List (List Key × V)} {ps : List (List Key × Addr × Value)}, KT J ms ps → ∀ {es : List (D × D)}, DTs K F ms es →
    ∀ {kvs : List (List Key × V)} {xs : List (List Key × Addr × Value)} {ds : List (D × D)}, KT J kvs xs → DTs K F kvs ds →
      ∃ rs, KT J rs (storedAllH xs ps) ∧ DTs K F rs (dmerge ds es) ∧ rs.length ≤ kvs.length + ms.length
  | _, _, .nil, es, u, kvs, xs, ds, r, t => by cases u; exact ⟨kvs, r, t, by simp⟩
  | _, _, .cons h p, es, u, kvs, xs, ds, r, t => by
    rename_i k q ks qs
    obtain ⟨h1, h2, h3⟩ := h
    obtain ⟨k1, v1⟩ := k
    obtain ⟨k2, b2, v2⟩ := q
    simp only at h1 h2 h3
    subst h1
    cases u with
    | cons hv u =>
      obtain ⟨rs, g1, g2, g3⟩ := kt_mergeT p u (r.put k1 h2 h3) (t.put k1 hv)
      refine ⟨rs, g1, g2, ?_⟩
      have := length_putK kvs k1 v1
      simp only [List.length_cons]
      omega
theorem mu_update (hu : X.A.units + 64 < cLine) : MtM X "dict.update" (rUpd X.K) := by
  intro pn s σ H x vs v us Q I rx rv h
  obtain ⟨F, a, c, ds, d, c', sb, hFa, rfl, top, hd, e, g⟩ := h
  have hL := LIM_eq
  cases (show v = Value.ref a from rx)
  cases hd with
  | nil => cases top <;> cases e
  | cons a1 b1 =>
    cases b1 with
    | cons _ _ => cases top <;> cases a1 <;> cases e
    | nil =>
      obtain ⟨u, rfl, ru⟩ := vals1 rv
      cases top with
      | lst _ _ => cases a1 <;> cases e
      | dk h1 h2 =>
        cases a1 <;> simp only [muEv] at e <;> try (cases e; done)
        all_goals
          split at e
          · rename_i hc
            exfalso
            simp only [Bool.and_eq_true, List.map_append, List.all_append] at hc
            have q := h2.not_tup (by have := hc.1.1.1; rw [List.all_map] at this; exact this)
            rw [q.2] at hc
            simp at hc
          · cases e
      | dt h1 h2 =>
        rename_i kvs es
        cases a1 <;> simp only [muEv] at e <;> try (cases e; done)
        · split at e
          · rename_i hc
            exfalso
            simp [tupK] at hc
          · cases e
        · -- an empty one
          rename_i b ms ns q1' q2
          have q1 := sb _ _ q1'
          split at e
          · rename_i hc
            cases e
            simp only [Bool.and_eq_true, List.map_append, List.all_append, decide_eq_true_eq] at hc
            obtain ⟨⟨⟨k1, k2⟩, ne⟩, hl⟩ := hc
            obtain ⟨e1, e2⟩ := q2.not_tup (by rw [List.all_map] at k2; exact k2)
            subst e1 e2
            cases (show u = Value.ref b from ru)
            obtain ⟨zz, hs, xs, rel, dd⟩ := dt_of I.hok h1
            obtain ⟨m, hs2⟩ := emptyKT (I.hok b _ q1)
            have hab : a ≠ b := ne_of h1 q1 nofun
            have hne : xs ≠ [] := fun z => by
              subst z
              cases rel
              cases h2
              simp at ne
            refine call_update_dictH (tupleKind_room_in1 (by omega)) hab hs2 dd m (.inl hne) (by rw [← Paired.length rel, List.length_nil]; exact zz) fun h' dd' mm hsb => ?_
            obtain ⟨o, esA, ep, w1, w2, w3, w4, _, w6⟩ := dd'
            refine ⟨.non, upd H a (.dT kvs), d_write (t' := s.toks) I (by rw [h1]; exact True.intro) hsb ⟨o, w1⟩ ⟨zz, hs, _, rel.keeps fun c ys ec => ?_, o, esA, ep, w1, w2, w3, w4, w6⟩, rfl, g _ _ .non (.dt upd_same h2)⟩
            rw [upd_ne (ne_of ec h1 nofun)]; exact ec
          · cases e
        · rename_i b ms ns q1' q2
          have q1 := sb _ _ q1'
          split at e
          · rename_i hc
            cases e
            simp only [Bool.and_eq_true, List.map_append, List.all_append, decide_eq_true_eq] at hc
            obtain ⟨⟨⟨k1, k2⟩, ne⟩, hl⟩ := hc
            cases (show u = Value.ref b from ru)
            have hab : a ≠ b := fun z => by rw [z, q1'] at hFa; cases hFa
            have l1 := h2.len
            have l2 := q2.len
            obtain ⟨zz, hs, xs, rel, dd⟩ := dt_of I.hok h1
            obtain ⟨zz2, hs2, ys, rel2, dd2⟩ := dt_of I.hok q1
            have hne : xs ≠ [] := fun z => by
              subst z
              cases rel
              cases h2
              simp at ne
            refine call_update_dictH (tupleKind_room_in1 (by omega)) hab hs2 dd dd2 (.inl hne) (by rw [← Paired.length rel, ← Paired.length rel2]; omega) fun h' dd' mm hsb => ?_
            obtain ⟨o, esA, ep, w1, w2, w3, w4, _, w6⟩ := dd'
            obtain ⟨rs, g1, g2, g3⟩ := kt_mergeT rel2 q2 rel h2
            refine ⟨.non, upd H a (.dT rs), d_write (t' := s.toks) I (by rw [h1]; exact True.intro) hsb ⟨o, w1⟩ ⟨by omega, hs, _, g1.keeps fun c ys ec => ?_, o, esA, ep, w1, w2, w3, w4, w6⟩, rfl, g _ _ .non (.dt upd_same g2)⟩
            rw [upd_ne (ne_of ec h1 nofun)]; exact ec
          · cases e
end
end PI

set_option Elab.async false
set_option linter.all false
set_option maxRecDepth 100000
set_option maxHeartbeats 4000000
/-! PIl: expressions: what each form does, by its parts' readings. -/
namespace PI
set_option autoImplicit false
open PySem PySem.Spec PySem.W L2
open PyProof.Rows hiding St

section
variable {K : PySem.W.Frag} {pa : List Addr} {ρ ρ' : Env} {σ : St} {F H F2 H2 : Hp} {Q : VK} {r : RV}
theorem Rel.gf (R : Rel K pa ρ σ F H) {F' : Hp} (g : GF F H F') : Rel K pa ρ σ F' H :=
  R.goes g.mono g.sub (fun _ _ _ h => h) fun b o => by
    cases q : F' b with
    | none => rfl
    | some u =>
      rcases g.tups b (by rw [q]; exact nofun) with z | ⟨xs, z⟩
      · exact absurd (R.unF o) z
      · obtain ⟨i, t, d, e1, e2⟩ := o
        obtain ⟨a, h1, _, h3, _⟩ := R.ow i t d e1
        rw [e2] at h1
        cases h1
        exact absurd z (h3.notTup xs)
theorem ES.gf {O : Addr → Prop} {F' : Hp} (g : GF F H F') : ES O F H O F' H :=
  ⟨⟨g.mono, fun _ _ h _ => h, fun b h => (g.tups b h).imp id fun z => .inr (.inr z), fun _ h => .inl h, fun _ h => h⟩, fun _ h => h⟩
theorem gives_of (R : Rel K pa ρ' σ F2 H2) (s : ES (Own ρ σ) F H (Own ρ' σ) F2 H2) (hr : ∀ i, r ≠ .pk i)
    (k : ∀ v F' H', Rel K pa ρ' σ F' H' → ES (Own ρ σ) F H (Own ρ' σ) F' H' → VR K H σ F' H' v r → Q v H') : Gives K F2 H2 r Q := by
  cases r with
  | pk i => exact absurd rfl (hr i)
  | sh d =>
    intro F' gf
    have R' := R.gf gf
    have s' := s.trans (ES.gf (O := Own ρ' σ) gf)
    exact ⟨fun v h => k v F' H2 R' s' h, fun v p o n h => k v (upd F' p o) (upd H2 p o) (R'.allocF n) (s'.trans (.allocF gf.sub n)) h⟩
  | fr d =>
    intro F' gf p o n top
    have R' := R.gf gf
    have s' := s.trans (ES.gf (O := Own ρ' σ) gf)
    refine k (.ref p) F' (upd H2 p o) (R'.alloc n) (s'.trans (.alloc n)) ⟨p, rfl, ?_, gf.sub.none_of n, top⟩
    exact Classical.byContradiction fun z => s.stp.dom p z n
theorem op2_pk {o : Op2} {x y : D} (e : op2Ev o x y = some r) : ∀ i, r ≠ .pk i := by
  intro i z
  subst z
  revert e
  unfold op2Ev
  split <;> intro z <;> first | (cases z; done) | (split at z <;> cases z)
theorem bind_pk {α : Type} {f : α → RV} {o : Option α} (h : ∀ a i, f a ≠ .pk i) (e : o.map f = some r) : ∀ i, r ≠ .pk i := by
  intro i z
  subst z
  obtain ⟨a, _, e2⟩ := Option.map_eq_some_iff.mp e
  exact h a i e2
theorem bi_pk {f : Bi} {ds : List D} (e : biEv f ds = some r) : ∀ i, r ≠ .pk i := by
  intro i z
  subst z
  revert e
  unfold biEv
  split <;> intro e <;> first
    | (cases e; done)
    | (obtain ⟨a, _, e2⟩ := Option.map_eq_some_iff.mp e; cases e2; done)
    | (obtain ⟨a, _, e2⟩ := Option.bind_eq_some_iff.mp e; obtain ⟨b, _, e3⟩ := Option.map_eq_some_iff.mp e2; cases e3; done)
    | (obtain ⟨a, _, e2⟩ := Option.bind_eq_some_iff.mp e; split at e2 <;> cases e2; done)
    | (split at e <;> first | (cases e; done) | (obtain ⟨a, _, e2⟩ := Option.map_eq_some_iff.mp e; cases e2; done) | (split at e <;> cases e; done))
theorem sl_pk {a lo hi : D} (e : slEv a lo hi = some r) : ∀ i, r ≠ .pk i := by
  intro i z
  subst z
  unfold slEv at e
  obtain ⟨_, _, e⟩ := Option.bind_eq_some_iff.mp e
  obtain ⟨_, _, e⟩ := Option.bind_eq_some_iff.mp e
  split at e <;> cases e
theorem rev_pk {a : D} (e : revEv a = some r) : ∀ i, r ≠ .pk i := by
  intro i z
  subst z
  unfold revEv at e
  split at e <;> cases e
theorem me_pk {m : Mt} {a : D} {ds : List D} (e : meEv m a ds = some r) : ∀ i, r ≠ .pk i := by
  intro i z
  subst z
  unfold meEv at e
  split at e
  · obtain ⟨_, _, e⟩ := Option.bind_eq_some_iff.mp e
    split at e <;> cases e
  · cases e
/-- a content as a test -/
theorem Cn.tru {v : V} {d : D} {t : Bool} (h : Cn K F H v d) (sb : Sub F H) (e : truth d = some t) : TruV K v H t := by
  cases h <;> simp only [truth] at e <;> try (cases e; done)
  · cases e; rfl
  · cases e; rfl
  · cases e; rfl
  · rename_i h1 h2
    cases e
    refine .inl ⟨_, .inl (.inl h1), ?_⟩
    cases h2 <;> rfl
  · rename_i h1 h2
    cases e
    refine .inr (.inl ⟨_, .inl (.inl (sb _ _ h1)), ?_⟩)
    cases h2 <;> rfl
end

/-! ### lists of arguments -/
def Es.len : Es → Nat
  | .nil => 0
  | .cons _ es => es.len + 1
theorem evL_len {C : Ctx} : ∀ {es : Es} {ρ ρ' : Env} {ds : List D}, evL C es ρ = some (ds, ρ') → ds.length = es.len
  | .nil, _, _, _, e => by simp only [evL] at e; cases e; rfl
  | .cons a as, ρ, ρ', ds, e => by
    simp only [evL] at e
    obtain ⟨p, _, e⟩ := Option.bind_eq_some_iff.mp e
    obtain ⟨p', _, e⟩ := Option.bind_eq_some_iff.mp e
    obtain ⟨q, e2, e⟩ := Option.bind_eq_some_iff.mp e
    cases e
    have := evL_len (es := as) (ρ := p'.2) (ρ' := q.2) (ds := q.1) e2
    simp [Es.len, this]
def notStar : Expr → Bool
  | .Starred _ _ => false
  | _ => true
theorem star_cons {e : Expr} {es : List Expr} {env : PySem.Env} (h : notStar e = true) : starEach (e :: es) env = (false, eval e env) :: starEach es env := by
  cases e <;> first | rfl | cases h
theorem star_none {env : PySem.Env} {pos : Pos} : ∀ {es : List Expr}, es.all notStar = true → (backTo pos (starEach es env)).any (·.1) = false
  | [], _ => rfl
  | e :: es, h => by
    simp only [List.all_cons, Bool.and_eq_true] at h
    rw [star_cons h.1]
    exact star_none h.2

section
variable {X : Cx} {pa : List Addr} {C : Ctx}
theorem s_nil : PA X [] (tL X.K pa (evL C .nil)) := pa_imp pa_nil fun σ H Q ⟨F, ρ, ds, ρ', R, e, k⟩ => by
  simp only [evL] at e
  cases e
  exact k [] F H R .rfl' .nil
theorem s_cons {x : Expr} {xs : List Expr} {e : E} {es : Es} (hs : notStar x = true) (h1 : PE X x (tE X.K pa (evE C e))) (h2 : PA X xs (tL X.K pa (evL C es))) : PA X (x :: xs) (tL X.K pa (evL C (.cons e es))) :=
  pa_imp (pa_cons h1 h2 (star_cons hs)) fun σ H Q ⟨F, ρ, ds, ρ', R, e, k⟩ => by
    simp only [evL] at e
    obtain ⟨p, e1, e⟩ := Option.bind_eq_some_iff.mp e
    obtain ⟨p', e2, e⟩ := Option.bind_eq_some_iff.mp e
    obtain ⟨q, e3, e⟩ := Option.bind_eq_some_iff.mp e
    cases e
    refine ⟨F, ρ, p.1, p.2, R, e1, fun v1 F1 H1 R1 s1 w1 => ?_⟩
    obtain ⟨F1', R1', w1', s1', sf⟩ := w1.frz R1 R s1 e2
    refine ⟨F1', p'.2, q.1, q.2, R1', e3, fun vs F2 H2 R2 s2 w2 => ?_⟩
    exact k _ F2 H2 R2 (s1'.trans s2) (.cons (w1'.sub s2.stp.mono) w2)
theorem s_nilR : PA X [] (tR X.K pa (evR C .nil)) := pa_imp pa_nil fun σ H Q ⟨F, ρ, ds, ρ', R, e, k⟩ => by
  simp only [evR] at e
  cases e
  exact k [] F H R .rfl' .nil
theorem s_consR {x : Expr} {xs : List Expr} {e : E} {es : Es} (hs : notStar x = true) (h1 : PE X x (tE X.K pa (evE C e))) (h2 : PA X xs (tR X.K pa (evR C es))) : PA X (x :: xs) (tR X.K pa (evR C (.cons e es))) :=
  pa_imp (pa_cons h1 h2 (star_cons hs)) fun σ H Q ⟨F, ρ, ds, ρ', R, e, k⟩ => by
    simp only [evR] at e
    obtain ⟨p, e1, e⟩ := Option.bind_eq_some_iff.mp e
    obtain ⟨q, e3, e⟩ := Option.bind_eq_some_iff.mp e
    cases e
    refine ⟨F, ρ, p.1, p.2, R, e1, fun v1 F1 H1 R1 s1 w1 => ?_⟩
    refine ⟨F1, p.2, q.1, q.2, R1, e3, fun vs F2 H2 R2 s2 w2 => ?_⟩
    exact k _ F2 H2 R2 (s1.trans s2) (.cons (w1.goes R s1 s2) (w2.back s1.stp.dom))

theorem s_bad {x : Expr} : PE X x (tE X.K pa (evE C .bad)) := ⟨fun pn s σ H Q I ⟨F, ρ, r, ρ', R, e, k⟩ => by simp only [evE] at e; cases e⟩
theorem s_var {i : Nat} {x : Str} {pos : Pos} (hN : X.N[i]? = some x) (hv : Vis X.env.scope x) (hd : (x == ("__debug__" : Str)) = false) (hcd : (x == ("__classdict__" : Str)) = false) : PE X (.Name x pos) (tE X.K pa (evE C (.v i))) :=
  pe_imp (pe_var hN hv hd hcd) fun σ H Q ⟨F, ρ, r, ρ', R, e, k⟩ => by
    simp only [evE] at e
    cases q : ρ.at i with
    | un => rw [q] at e; cases e
    | sh d =>
      rw [q] at e
      cases e
      obtain ⟨v, h1, _⟩ := R.sh i d (at_some q nofun)
      exact ⟨v, h1, k v F H R .rfl' h1⟩
    | ow t d =>
      rw [q] at e
      cases e
      obtain ⟨a, h1, _⟩ := R.ow i t d (at_some q nofun)
      exact ⟨.ref a, h1, k _ F H R .rfl' h1⟩
theorem s_const {x : Expr} {v : V} {d : D} (h : PE X x (tC v)) (hd : ∀ F, DP X.K F v d) {e : E} (he : ∀ ρ, evE C e ρ = some (.sh d, ρ)) : PE X x (tE X.K pa (evE C e)) :=
  pe_imp h fun σ H Q ⟨F, ρ, r, ρ', R, e, k⟩ => by
    rw [he] at e
    cases e
    exact k v F H R .rfl' (hd F)
theorem s_tup {xs : List Expr} {es : Es} {kk : Nat} {pos : Pos} (hl : es.len ≤ 1000) (h : PA X xs (tL X.K pa (evL C es))) : PE X (.Tuple xs kk pos) (tE X.K pa (evE C (.tup es))) :=
  pe_imp (pe_tup h) fun σ H Q ⟨F, ρ, r, ρ', R, e, k⟩ => by
    simp only [evE] at e
    obtain ⟨p, e1, e⟩ := Option.map_eq_some_iff.mp e
    cases e
    refine ⟨F, ρ, p.1, p.2, R, e1, fun vs F1 H1 R1 s1 w1 => ⟨?_, fun a n => ?_⟩⟩
    · have hz : sizeLine = 16777216 := sizeLine_eq
      rw [w1.len, evL_len e1, hz]; omega
    · exact k _ (upd F1 a (.tup vs)) _ (R1.allocF n) (s1.trans (.allocF R1.sub n)) (.tup upd_same (w1.sub (R1.sub.allocM n)))
theorem s_lst {xs : List Expr} {es : Es} {pos : Pos} (hl : es.len ≤ 1000) (h : PA X xs (tL X.K pa (evL C es))) : PE X (.List xs pos) (tE X.K pa (evE C (.lst es))) :=
  pe_imp (pe_lst h) fun σ H Q ⟨F, ρ, r, ρ', R, e, k⟩ => by
    simp only [evE] at e
    obtain ⟨p, e1, e⟩ := Option.map_eq_some_iff.mp e
    cases e
    refine ⟨F, ρ, p.1, p.2, R, e1, fun vs F1 H1 R1 s1 w1 => ⟨?_, fun a n => ?_⟩⟩
    · have hz : sizeLine = 16777216 := sizeLine_eq
      rw [w1.len, evL_len e1, hz]; omega
    · exact k _ F1 _ (R1.alloc n) (s1.trans (.alloc n)) ⟨a, rfl, Classical.byContradiction fun z => s1.stp.dom a z n, R1.sub.none_of n, .lst upd_same w1⟩
theorem s_dnk {pos : Pos} : PE X (.Dict [] [] pos) (tE X.K pa (evE C .dnk)) :=
  pe_imp pe_dnewK fun σ H Q ⟨F, ρ, r, ρ', R, e, k⟩ => by
    simp only [evE] at e
    cases e
    exact fun a n => k _ F _ (R.alloc n) (.alloc n) ⟨a, rfl, n, R.sub.none_of n, .dk upd_same .nil⟩
section
variable {x y z : Expr} {a b c : E} {pos : Pos}
theorem s_op2 {o : Op2} (ha : PE X x (tE X.K pa (evE C a))) (hb : PE X y (tE X.K pa (evE C b))) : PE X (.BinOp x (opN o) y pos) (tE X.K pa (evE C (.op2 o a b))) :=
  pe_imp (pe_op (or_ops o) ha hb) fun σ H Q ⟨F, ρ, r, ρ', R, e, k⟩ => by
    simp only [evE] at e
    obtain ⟨p, e1, e⟩ := Option.bind_eq_some_iff.mp e
    obtain ⟨q, e2, e⟩ := Option.bind_eq_some_iff.mp e
    obtain ⟨dx, e3, e⟩ := Option.bind_eq_some_iff.mp e
    obtain ⟨dy, e4, e⟩ := Option.bind_eq_some_iff.mp e
    obtain ⟨w, e5, e⟩ := Option.map_eq_some_iff.mp e
    cases e
    exact ⟨F, ρ, p.1, p.2, R, e1, fun v1 F1 H1 R1 s1 w1 => ⟨F1, p.2, q.1, q.2, R1, e2, fun v2 F2 H2 R2 s2 w2 =>
      ⟨F2, dx, dy, _, R2.sub, (w1.goes R s1 s2).cn R2 e3, w2.cn R2 e4, e5, gives_of R2 (s1.trans s2) (op2_pk e5) k⟩⟩⟩
theorem s_neg (ha : PE X x (tE X.K pa (evE C a))) : PE X (.UnaryOp .USub x pos) (tE X.K pa (evE C (.neg a))) :=
  pe_imp (pe_un un_neg ha) fun σ H Q ⟨F, ρ, r, ρ', R, e, k⟩ => by
    simp only [evE] at e
    obtain ⟨p, e1, e⟩ := Option.bind_eq_some_iff.mp e
    obtain ⟨dx, e3, e⟩ := Option.bind_eq_some_iff.mp e
    obtain ⟨i, e5, e⟩ := Option.map_eq_some_iff.mp e
    cases e
    refine ⟨F, ρ, p.1, p.2, R, e1, fun v1 F1 H1 R1 s1 w1 => ?_⟩
    have cn := w1.cn R1 e3
    cases dx <;> simp only [intOf] at e5 <;> cases e5
    cases cn
    exact ⟨_, rfl, k _ F1 H1 R1 s1 (.int _)⟩
theorem s_cmp {o : Cm} (hu : X.A.units + 64 < cLine) (ha : PE X x (tE X.K pa (evE C a))) (hb : PE X y (tE X.K pa (evE C b))) (hm : behindInMarks (cmN o) y = false) : PE X (.Compare x [cmN o] [y] pos) (tE X.K pa (evE C (.cmp o a b))) :=
  pe_imp (pe_cmpR (or_cmp hu o) ha hb hm) fun σ H Q ⟨F, ρ, r, ρ', R, e, k⟩ => by
    simp only [evE] at e
    obtain ⟨p, e1, e⟩ := Option.bind_eq_some_iff.mp e
    obtain ⟨q, e2, e⟩ := Option.bind_eq_some_iff.mp e
    obtain ⟨dx, e3, e⟩ := Option.bind_eq_some_iff.mp e
    obtain ⟨dy, e4, e⟩ := Option.bind_eq_some_iff.mp e
    obtain ⟨w, e5, e⟩ := Option.map_eq_some_iff.mp e
    cases e
    exact ⟨F, ρ, p.1, p.2, R, e1, fun v1 F1 H1 R1 s1 w1 => ⟨F1, p.2, q.1, q.2, R1, e2, fun v2 F2 H2 R2 s2 w2 =>
      ⟨F2, dx, dy, w, R2.sub, (w1.goes R s1 s2).cn R2 e3, w2.cn R2 e4, e5, k _ F2 H2 R2 (s1.trans s2) (.bl _)⟩⟩⟩
theorem t_cmp {o : Cm} (hu : X.A.units + 64 < cLine) (ha : PE X x (tE X.K pa (evE C a))) (hb : PE X y (tE X.K pa (evE C b))) (hm : behindInMarks (cmN o) y = false) : PT X (.Compare x [cmN o] [y] pos) (tT X.K pa (evT C (.cmp o a b))) :=
  pt_imp (pt_cmpR (or_cmp hu o) ha hb hm) fun σ H Q ⟨F, ρ, r, ρ', R, e, k⟩ => by
    simp only [evT, evE] at e
    obtain ⟨p0, e0, e⟩ := Option.bind_eq_some_iff.mp e
    obtain ⟨p, e1, e0⟩ := Option.bind_eq_some_iff.mp e0
    obtain ⟨q, e2, e0⟩ := Option.bind_eq_some_iff.mp e0
    obtain ⟨dx, e3, e0⟩ := Option.bind_eq_some_iff.mp e0
    obtain ⟨dy, e4, e0⟩ := Option.bind_eq_some_iff.mp e0
    obtain ⟨w, e5, e0⟩ := Option.map_eq_some_iff.mp e0
    cases e0
    simp only [cont, truth, Option.bind_some, Option.map_some] at e
    cases e
    exact ⟨F, ρ, p.1, p.2, R, e1, fun v1 F1 H1 R1 s1 w1 => ⟨F1, p.2, q.1, q.2, R1, e2, fun v2 F2 H2 R2 s2 w2 =>
      ⟨F2, dx, dy, _, R2.sub, (w1.goes R s1 s2).cn R2 e3, w2.cn R2 e4, e5, _, rfl, k F2 H2 R2 (s1.trans s2)⟩⟩⟩
theorem s_cmp2 {o o' : Cm} (hu : X.A.units + 64 < cLine) (ha : PE X x (tE X.K pa (evE C a))) (hb : PE X y (tE X.K pa (evE C b))) (hc : PE X z (tE X.K pa (evE C c))) (hm : lastMarks [cmN o, cmN o'] [y, z] = false) :
    PE X (.Compare x [cmN o, cmN o'] [y, z] pos) (tE X.K pa (evE C (.cmp2 o o' a b c))) :=
  pe_imp (pe_chain (or_cmp hu o) (or_cmp hu o') ha hb hc hm) fun σ H Q ⟨F, ρ, r, ρ', R, e, k⟩ => by
    simp only [evE] at e
    obtain ⟨p, e1, e⟩ := Option.bind_eq_some_iff.mp e
    obtain ⟨q, e2, e⟩ := Option.bind_eq_some_iff.mp e
    obtain ⟨dx, e3, e⟩ := Option.bind_eq_some_iff.mp e
    obtain ⟨dy, e4, e⟩ := Option.bind_eq_some_iff.mp e
    obtain ⟨w, e5, e⟩ := Option.bind_eq_some_iff.mp e
    refine ⟨F, ρ, p.1, p.2, R, e1, fun v1 F1 H1 R1 s1 w1 => ⟨F1, p.2, q.1, q.2, R1, e2, fun v2 F2 H2 R2 s2 w2 =>
      ⟨F2, dx, dy, w, R2.sub, (w1.goes R s1 s2).cn R2 e3, w2.cn R2 e4, e5, w, rfl, ?_⟩⟩⟩
    cases w with
    | false =>
      simp only [Bool.false_eq_true, if_false] at e ⊢
      cases e
      exact k _ F2 H2 R2 (s1.trans s2) (.bl _)
    | true =>
      simp only [if_true] at e ⊢
      obtain ⟨t, e6, e⟩ := Option.bind_eq_some_iff.mp e
      obtain ⟨dy', e7, e⟩ := Option.bind_eq_some_iff.mp e
      obtain ⟨dz, e8, e⟩ := Option.bind_eq_some_iff.mp e
      obtain ⟨u, e9, e⟩ := Option.map_eq_some_iff.mp e
      cases e
      exact ⟨F2, q.2, t.1, t.2, R2, e6, fun v3 F3 H3 R3 s3 w3 => ⟨F3, dy', dz, u, R3.sub, (w2.goes R1 s2 s3).cn R3 e7, w3.cn R3 e8, e9, k _ F3 H3 R3 ((s1.trans s2).trans s3) (.bl _)⟩⟩
theorem t_cmp2 {o o' : Cm} (hu : X.A.units + 64 < cLine) (ha : PE X x (tE X.K pa (evE C a))) (hb : PE X y (tE X.K pa (evE C b))) (hc : PE X z (tE X.K pa (evE C c))) (hm : lastMarks [cmN o, cmN o'] [y, z] = false) :
    PT X (.Compare x [cmN o, cmN o'] [y, z] pos) (tT X.K pa (evT C (.cmp2 o o' a b c))) :=
  pt_imp (pt_chain (or_cmp hu o) (or_cmp hu o') ha hb hc hm) fun σ H Q ⟨F, ρ, r, ρ', R, e, k⟩ => by
    simp only [evT, evE] at e
    obtain ⟨p0, e0, e⟩ := Option.bind_eq_some_iff.mp e
    obtain ⟨p, e1, e0⟩ := Option.bind_eq_some_iff.mp e0
    obtain ⟨q, e2, e0⟩ := Option.bind_eq_some_iff.mp e0
    obtain ⟨dx, e3, e0⟩ := Option.bind_eq_some_iff.mp e0
    obtain ⟨dy, e4, e0⟩ := Option.bind_eq_some_iff.mp e0
    obtain ⟨w, e5, e0⟩ := Option.bind_eq_some_iff.mp e0
    refine ⟨F, ρ, p.1, p.2, R, e1, fun v1 F1 H1 R1 s1 w1 => ⟨F1, p.2, q.1, q.2, R1, e2, fun v2 F2 H2 R2 s2 w2 =>
      ⟨F2, dx, dy, w, R2.sub, (w1.goes R s1 s2).cn R2 e3, w2.cn R2 e4, e5, w, rfl, ?_⟩⟩⟩
    cases w with
    | false =>
      simp only [Bool.false_eq_true, if_false] at e0 ⊢
      cases e0
      simp only [cont, truth, Option.bind_some, Option.map_some] at e
      cases e
      exact ⟨_, rfl, k F2 H2 R2 (s1.trans s2)⟩
    | true =>
      simp only [if_true] at e0 ⊢
      obtain ⟨t, e6, e0⟩ := Option.bind_eq_some_iff.mp e0
      obtain ⟨dy', e7, e0⟩ := Option.bind_eq_some_iff.mp e0
      obtain ⟨dz, e8, e0⟩ := Option.bind_eq_some_iff.mp e0
      obtain ⟨u, e9, e0⟩ := Option.map_eq_some_iff.mp e0
      cases e0
      simp only [cont, truth, Option.bind_some, Option.map_some] at e
      cases e
      exact ⟨F2, q.2, t.1, t.2, R2, e6, fun v3 F3 H3 R3 s3 w3 => ⟨F3, dy', dz, _, R3.sub, (w2.goes R1 s2 s3).cn R3 e7, w3.cn R3 e8, e9, _, rfl, k F3 H3 R3 ((s1.trans s2).trans s3)⟩⟩
theorem s_and {rest : List Expr} (ha : PE X x (tE X.K pa (evE C a))) (hb : PE X (.BoolOp .And (y :: rest) pos) (tE X.K pa (evE C b))) : PE X (.BoolOp .And (x :: y :: rest) pos) (tE X.K pa (evE C (.and a b))) :=
  pe_imp (pe_andT ha hb) fun σ H Q ⟨F, ρ, r, ρ', R, e, k⟩ => by
    simp only [evE] at e
    obtain ⟨p, e1, e⟩ := Option.bind_eq_some_iff.mp e
    obtain ⟨dx, e3, e⟩ := Option.bind_eq_some_iff.mp e
    obtain ⟨t, e5, e⟩ := Option.bind_eq_some_iff.mp e
    refine ⟨F, ρ, p.1, p.2, R, e1, fun v1 F1 H1 R1 s1 w1 => ⟨t, (w1.cn R1 e3).tru R1.sub e5, ?_⟩⟩
    cases t with
    | false =>
      simp only [Bool.false_eq_true, if_false] at e ⊢
      cases e
      exact k _ F1 H1 R1 s1 w1
    | true =>
      simp only [if_true] at e ⊢
      exact ⟨F1, p.2, r, ρ', R1, e, fun v2 F2 H2 R2 s2 w2 => k _ F2 H2 R2 (s1.trans s2) (w2.back s1.stp.dom)⟩
theorem s_or {rest : List Expr} (ha : PE X x (tE X.K pa (evE C a))) (hb : PE X (.BoolOp .Or (y :: rest) pos) (tE X.K pa (evE C b))) : PE X (.BoolOp .Or (x :: y :: rest) pos) (tE X.K pa (evE C (.or a b))) :=
  pe_imp (pe_orT ha hb) fun σ H Q ⟨F, ρ, r, ρ', R, e, k⟩ => by
    simp only [evE] at e
    obtain ⟨p, e1, e⟩ := Option.bind_eq_some_iff.mp e
    obtain ⟨dx, e3, e⟩ := Option.bind_eq_some_iff.mp e
    obtain ⟨t, e5, e⟩ := Option.bind_eq_some_iff.mp e
    refine ⟨F, ρ, p.1, p.2, R, e1, fun v1 F1 H1 R1 s1 w1 => ⟨t, (w1.cn R1 e3).tru R1.sub e5, ?_⟩⟩
    cases t with
    | true =>
      simp only [if_true] at e ⊢
      cases e
      exact k _ F1 H1 R1 s1 w1
    | false =>
      simp only [Bool.false_eq_true, if_false] at e ⊢
      exact ⟨F1, p.2, r, ρ', R1, e, fun v2 F2 H2 R2 s2 w2 => k _ F2 H2 R2 (s1.trans s2) (w2.back s1.stp.dom)⟩
theorem s_not (ha : PE X x (tE X.K pa (evE C a))) : PE X (.UnaryOp .Not x pos) (tE X.K pa (evE C (.not a))) :=
  pe_imp (pe_notT ha) fun σ H Q ⟨F, ρ, r, ρ', R, e, k⟩ => by
    simp only [evE] at e
    obtain ⟨p, e1, e⟩ := Option.bind_eq_some_iff.mp e
    obtain ⟨dx, e3, e⟩ := Option.bind_eq_some_iff.mp e
    obtain ⟨t, e5, e⟩ := Option.map_eq_some_iff.mp e
    cases e
    exact ⟨F, ρ, p.1, p.2, R, e1, fun v1 F1 H1 R1 s1 w1 => ⟨t, (w1.cn R1 e3).tru R1.sub e5, k _ F1 H1 R1 s1 (.bl _)⟩⟩
theorem s_ite (hc : PT X z (tT X.K pa (evT C c))) (ha : PE X x (tE X.K pa (evE C a))) (hb : PE X y (tE X.K pa (evE C b))) : PE X (.IfExp z x y pos) (tE X.K pa (evE C (.ite c a b))) :=
  pe_imp (pe_ifExp hc ha hb) fun σ H Q ⟨F, ρ, r, ρ', R, e, k⟩ => by
    simp only [evE] at e
    obtain ⟨p, e1, e⟩ := Option.bind_eq_some_iff.mp e
    obtain ⟨dx, e3, e⟩ := Option.bind_eq_some_iff.mp e
    obtain ⟨t, e5, e⟩ := Option.bind_eq_some_iff.mp e
    refine ⟨F, ρ, t, p.2, R, by simp only [evT]; rw [e1]; simp only [Option.bind_some]; rw [e3]; simp only [Option.bind_some]; rw [e5]; rfl, fun F1 H1 R1 s1 => ?_⟩
    cases t with
    | true =>
      simp only [if_true] at e ⊢
      exact ⟨F1, p.2, r, ρ', R1, e, fun v2 F2 H2 R2 s2 w2 => k _ F2 H2 R2 (s1.trans s2) (w2.back s1.stp.dom)⟩
    | false =>
      simp only [Bool.false_eq_true, if_false] at e ⊢
      exact ⟨F1, p.2, r, ρ', R1, e, fun v2 F2 H2 R2 s2 w2 => k _ F2 H2 R2 (s1.trans s2) (w2.back s1.stp.dom)⟩
/-! tests -/
theorem t_of (ha : PE X x (tE X.K pa (evE C a))) (he : ∀ whole, isTrue x X.env whole = (do let v ← whole; standAt x.pos; holding [v] (truthy v))) : PT X x (tT X.K pa (evT C a)) :=
  pt_imp (pt_truth ha he) fun σ H Q ⟨F, ρ, r, ρ', R, e, k⟩ => by
    simp only [evT] at e
    obtain ⟨p, e1, e⟩ := Option.bind_eq_some_iff.mp e
    obtain ⟨dx, e3, e⟩ := Option.bind_eq_some_iff.mp e
    obtain ⟨t, e5, e⟩ := Option.map_eq_some_iff.mp e
    cases e
    exact ⟨F, ρ, p.1, p.2, R, e1, fun v1 F1 H1 R1 s1 w1 => ⟨_, (w1.cn R1 e3).tru R1.sub e5, k F1 H1 R1 s1⟩⟩
theorem t_not (ha : PT X x (tT X.K pa (evT C a))) : PT X (.UnaryOp .Not x pos) (tT X.K pa (evT C (.not a))) :=
  pt_imp (pt_not ha) fun σ H Q ⟨F, ρ, r, ρ', R, e, k⟩ => by
    simp only [evT, evE] at e
    obtain ⟨p0, e0, e⟩ := Option.bind_eq_some_iff.mp e
    obtain ⟨p, e1, e0⟩ := Option.bind_eq_some_iff.mp e0
    obtain ⟨dx, e3, e0⟩ := Option.bind_eq_some_iff.mp e0
    obtain ⟨t, e5, e0⟩ := Option.map_eq_some_iff.mp e0
    cases e0
    simp only [cont, truth, Option.bind_some, Option.map_some] at e
    cases e
    exact ⟨F, ρ, t, p.2, R, by simp only [evT]; rw [e1]; simp only [Option.bind_some]; rw [e3]; simp only [Option.bind_some]; rw [e5]; rfl, fun F1 H1 R1 s1 => k F1 H1 R1 s1⟩
theorem w_and {rest : List Expr} (ha : PT X x (tT X.K pa (evT C a))) (hb : PW X (.BoolOp .And (y :: rest) pos) (tT X.K pa (evT C b))) : PW X (.BoolOp .And (x :: y :: rest) pos) (tT X.K pa (evT C (.and a b))) :=
  pw_imp (pw_and ha hb) fun σ H Q ⟨F, ρ, r, ρ', R, e, k⟩ => by
    simp only [evT, evE] at e
    obtain ⟨p0, e0, e⟩ := Option.bind_eq_some_iff.mp e
    obtain ⟨p, e1, e0⟩ := Option.bind_eq_some_iff.mp e0
    obtain ⟨dx, e3, e0⟩ := Option.bind_eq_some_iff.mp e0
    obtain ⟨t, e5, e0⟩ := Option.bind_eq_some_iff.mp e0
    refine ⟨F, ρ, t, p.2, R, by simp only [evT]; rw [e1]; simp only [Option.bind_some]; rw [e3]; simp only [Option.bind_some]; rw [e5]; rfl, fun F1 H1 R1 s1 => ?_⟩
    cases t with
    | true =>
      simp only [if_true] at e0 ⊢
      exact ⟨F1, p.2, r, ρ', R1, by simp only [evT]; rw [e0]; exact e, fun F2 H2 R2 s2 => k F2 H2 R2 (s1.trans s2)⟩
    | false =>
      simp only [Bool.false_eq_true, if_false] at e0 ⊢
      cases e0
      rw [e3] at e
      simp only [Option.bind_some] at e
      rw [e5] at e
      cases e
      exact k F1 H1 R1 s1
theorem w_or {rest : List Expr} (ha : PT X x (tT X.K pa (evT C a))) (hb : PW X (.BoolOp .Or (y :: rest) pos) (tT X.K pa (evT C b))) : PW X (.BoolOp .Or (x :: y :: rest) pos) (tT X.K pa (evT C (.or a b))) :=
  pw_imp (pw_or ha hb) fun σ H Q ⟨F, ρ, r, ρ', R, e, k⟩ => by
    simp only [evT, evE] at e
    obtain ⟨p0, e0, e⟩ := Option.bind_eq_some_iff.mp e
    obtain ⟨p, e1, e0⟩ := Option.bind_eq_some_iff.mp e0
    obtain ⟨dx, e3, e0⟩ := Option.bind_eq_some_iff.mp e0
    obtain ⟨t, e5, e0⟩ := Option.bind_eq_some_iff.mp e0
    refine ⟨F, ρ, t, p.2, R, by simp only [evT]; rw [e1]; simp only [Option.bind_some]; rw [e3]; simp only [Option.bind_some]; rw [e5]; rfl, fun F1 H1 R1 s1 => ?_⟩
    cases t with
    | false =>
      simp only [Bool.false_eq_true, if_false] at e0 ⊢
      exact ⟨F1, p.2, r, ρ', R1, by simp only [evT]; rw [e0]; exact e, fun F2 H2 R2 s2 => k F2 H2 R2 (s1.trans s2)⟩
    | true =>
      simp only [if_true] at e0 ⊢
      cases e0
      rw [e3] at e
      simp only [Option.bind_some] at e
      rw [e5] at e
      cases e
      exact k F1 H1 R1 s1
theorem t_bad : PT X x (tT X.K pa (evT C .bad)) := ⟨fun pn s σ H Q I ⟨F, ρ, r, ρ', R, e, k⟩ => by simp only [evT, evE] at e; cases e⟩
/-! built-ins, methods, subscripts -/
theorem s_bi {f : Bi} {T n : String} {nm : Str} {p : Pos} {es : Es} {xs : List Expr} (hu : X.A.units + 64 < cLine) (hc : X.calm = true) (hf : ∀ ts, f ≠ .isi ts) (hb : biV f = .builtin n ∨ biV f = .type n)
    (hg : Gl X nm) (hm : X.mg nm = none) (hv : bootBuiltins nm = some (biV f)) (hn : nm ≠ "__name__") (hd : (nm == ("__debug__" : Str)) = false) (hs : (x :: xs).all notStar = true)
    (h : PA X (x :: xs) (tR X.K pa (evR C es))) : PE X (.Call (.Name nm p) (x :: xs) [] pos) (tE X.K pa (evE C (.bi f es))) := by
  have key : PE X (.Call (.Name nm p) (x :: xs) [] pos) (tCB (rB X.K f) (tR X.K pa (evR C es))) := by
    simp only [List.all_cons, Bool.and_eq_true] at hs
    have cr := cr_bi hu hc f hf
    rcases hb with q | q
    · rw [q] at cr hv
      exact pe_callB cr hg hm hv h hn hd (star_cons hs.1) (star_none hs.2)
    · rw [q] at cr hv
      exact pe_callTy cr hg hm hv h hn hd (star_cons hs.1) (star_none hs.2)
  refine pe_imp key fun σ H Q ⟨F, ρ, r, ρ', R, e, k⟩ => ?_
  simp only [evE] at e
  obtain ⟨q, e1, e⟩ := Option.bind_eq_some_iff.mp e
  obtain ⟨ds, e3, e⟩ := Option.bind_eq_some_iff.mp e
  obtain ⟨w, e5, e⟩ := Option.map_eq_some_iff.mp e
  cases e
  exact ⟨F, ρ, q.1, q.2, R, e1, fun vs F1 H1 R1 s1 w1 => ⟨F1, ds, _, R1.sub, w1.cns R1 e3, e5, gives_of R1 s1 (bi_pk e5) k⟩⟩
theorem s_ix (hu : X.A.units + 1 < cLine) (hs : PlainIx y) (ha : PE X x (tE X.K pa (evE C a))) (hb : PE X y (tE X.K pa (evE C b))) : PE X (.Subscript x y pos) (tE X.K pa (evE C (.ix a b))) :=
  pe_imp (pe_ix (ix_all hu) ha hb hs) fun σ H Q ⟨F, ρ, r, ρ', R, e, k⟩ => by
    simp only [evE] at e
    obtain ⟨p, e1, e⟩ := Option.bind_eq_some_iff.mp e
    obtain ⟨q, e2, e⟩ := Option.bind_eq_some_iff.mp e
    obtain ⟨dx, e3, e⟩ := Option.bind_eq_some_iff.mp e
    obtain ⟨dy, e4, e⟩ := Option.bind_eq_some_iff.mp e
    obtain ⟨w, e5, e⟩ := Option.map_eq_some_iff.mp e
    cases e
    exact ⟨F, ρ, p.1, p.2, R, e1, fun v1 F1 H1 R1 s1 w1 => ⟨F1, p.2, q.1, q.2, R1, e2, fun v2 F2 H2 R2 s2 w2 =>
      ⟨F2, dx, dy, w, R2.sub, (w1.goes R s1 s2).cn R2 e3, w2.cn R2 e4, e5, fun v h => k _ F2 H2 R2 (s1.trans s2) h⟩⟩⟩
theorem s_rev {kk : Nat} {p1 p2 p3 : Pos} (ha : PE X x (tE X.K pa (evE C a))) : PE X (.Subscript x (.Slice none none (some (.UnaryOp .USub (.Constant (.int 1) kk p1) p2)) p3) pos) (tE X.K pa (evE C (.rev a))) :=
  pe_imp (pe_revL ha) fun σ H Q ⟨F, ρ, r, ρ', R, e, k⟩ => by
    simp only [evE] at e
    obtain ⟨p, e1, e⟩ := Option.bind_eq_some_iff.mp e
    obtain ⟨dx, e3, e⟩ := Option.bind_eq_some_iff.mp e
    obtain ⟨w, e5, e⟩ := Option.map_eq_some_iff.mp e
    cases e
    refine ⟨F, ρ, p.1, p.2, R, e1, fun v1 F1 H1 R1 s1 w1 => ?_⟩
    have cn := w1.cn R1 e3
    cases dx <;> simp only [revEv] at e5 <;> cases e5
    cases cn with
    | lst h1 h2 =>
      exact ⟨_, _, rfl, .inl (.inl h1), fun q n => g3 (gives_of R1 s1 nofun k) R1.sub q _ n (.lst upd_same h2.revN)⟩
/-- a slice's part -/
def tPt (te : TE) : TO := fun σ H Q => te σ H fun v H1 => (v = .non ∧ Q none H1) ∨ ∃ i, v = .int i ∧ Q (some i) H1
end
end
end PI

set_option Elab.async false
set_option linter.all false
set_option maxRecDepth 100000
set_option maxHeartbeats 4000000
/-! PIm: slices, isinstance, methods, calls of defs. -/
namespace PI
set_option autoImplicit false
open PySem PySem.Spec PySem.W L2
open PyProof.Rows hiding St

section
variable {X : Cx} {pa : List Addr} {C : Ctx} {x y z : Expr} {a b c : E} {pos : Pos}
/-- a slice's part: what is to be known of it -/
def tP (K : PySem.W.Frag) (pa : List Addr) (ev : Env → Option (RV × Env)) : TO := fun σ H Q => ∃ F ρ r ρ' d o, Rel K pa ρ σ F H ∧ ev ρ = some (r, ρ') ∧ cont ρ' r = some d ∧ partOf d = some o ∧
  ∀ F' H', Rel K pa ρ' σ F' H' → ES (Own ρ σ) F H (Own ρ' σ) F' H' → Q o H'
theorem p_none : PO X none (tP X.K pa (evE C .no)) := ⟨fun pn s σ H Q I ⟨F, ρ, r, ρ', d, o, R, e, e2, e3, k⟩ => by
  simp only [evE] at e
  cases e
  cases e2
  cases e3
  exact po_none.run pn s σ H Q I (k F H R .rfl')⟩
theorem p_some (h : PE X x (tE X.K pa (evE C a))) : PO X (some x) (tP X.K pa (evE C a)) := ⟨fun pn s σ H Q I ⟨F, ρ, r, ρ', d, o, R, e, e2, e3, k⟩ => by
  have key : tE X.K pa (evE C a) σ H fun v H' => (v = .non ∧ Q none H') ∨ ∃ i, v = .int i ∧ Q (some i) H' := ⟨F, ρ, r, ρ', R, e, fun v F' H' R' s' w' => by
    have cn := w'.cn R' e2
    have q := k F' H' R' s'
    cases d <;> simp only [partOf] at e3 <;> cases e3
    · cases cn; exact .inl ⟨rfl, q⟩
    · cases cn; exact .inr ⟨_, rfl, q⟩⟩
  rw [evalPart_some]
  refine thn (h.run pn s σ H _ I key) fun u s1 ⟨v, H1, I1, r1, q1⟩ => ?_
  rcases q1 with ⟨rfl, q⟩ | ⟨i, rfl, q⟩
  · cases r1
    exact ⟨none, H1, I1, .none, q⟩
  · obtain ⟨t, rfl⟩ := r1
    exact ⟨some i, H1, I1, .int i t, q⟩⟩
theorem part_back {d : D} {o : Option Int} (e : partOf d = some o) : (o.map PyData.int).getD .none = d := by
  cases d <;> simp only [partOf] at e <;> cases e <;> rfl
theorem s_sl {lo hi : Option Expr} {p2 : Pos} (ha : PE X x (tE X.K pa (evE C a))) (hl : PO X lo (tP X.K pa (evE C b))) (hh : PO X hi (tP X.K pa (evE C c))) : PE X (.Subscript x (.Slice lo hi none p2) pos) (tE X.K pa (evE C (.sl a b c))) :=
  pe_imp (pe_slice sl_all ha hl hh) fun σ H Q ⟨F, ρ, r, ρ', R, e, k⟩ => by
    simp only [evE] at e
    obtain ⟨p, e1, e⟩ := Option.bind_eq_some_iff.mp e
    obtain ⟨q, e2, e⟩ := Option.bind_eq_some_iff.mp e
    obtain ⟨dl, e3, e⟩ := Option.bind_eq_some_iff.mp e
    obtain ⟨t, e4, e⟩ := Option.bind_eq_some_iff.mp e
    obtain ⟨dh, e5, e⟩ := Option.bind_eq_some_iff.mp e
    obtain ⟨dx, e6, e⟩ := Option.bind_eq_some_iff.mp e
    obtain ⟨w, e7, e⟩ := Option.map_eq_some_iff.mp e
    cases e
    have e8 := e7
    unfold slEv at e8
    obtain ⟨ol, g1, e8⟩ := Option.bind_eq_some_iff.mp e8
    obtain ⟨oh, g2, _⟩ := Option.bind_eq_some_iff.mp e8
    refine ⟨F, ρ, p.1, p.2, R, e1, fun v1 F1 H1 R1 s1 w1 => ⟨F1, p.2, q.1, q.2, dl, ol, R1, e2, e3, g1, fun F2 H2 R2 s2 => ⟨F2, q.2, t.1, t.2, dh, oh, R2, e4, e5, g2, fun F3 H3 R3 s3 => ?_⟩⟩⟩
    refine ⟨F3, dx, _, R3.sub, ((w1.goes R s1 s2).goes R (s1.trans s2) s3).cn R3 e6, ?_, gives_of R3 ((s1.trans s2).trans s3) (sl_pk e7) k⟩
    rw [part_back g1, part_back g2]; exact e7

/-! isinstance -/
def tyN : Ty → String
  | .int => "int" | .bool => "bool" | .str => "str" | .list => "list" | .tuple => "tuple" | .dict => "dict"
def dTy : D → String
  | .none => "NoneType" | .bool _ => "bool" | .int _ => "int" | .str _ => "str" | .list _ => "list" | .tuple _ => "tuple" | .dict _ => "dict"
theorem tyx_of {K : PySem.W.Frag} {F H : Hp} {v : V} {d : D} (h : Cn K F H v d) (sb : Sub F H) (hs : scrD d = false) : TyX K H v (.type (dTy d)) := by
  cases h with
  | non => exact .base .non
  | bl b => exact .base (.bl b)
  | int i => exact .base (.int i)
  | str i => exact .base (.str i)
  | lst h _ => exact .base (.lst h)
  | tup h _ => exact .base (.tup (sb _ _ h))
  | dk h _ => exact .base (.dK h)
  | dt h _ => exact .base (.dT h)
  | scr _ _ => cases hs
theorem kb_all : ∀ (a b : Ty), kitB (tyN a) (tyN b) = some (decide (a = b) || (decide (a = .bool) && decide (b = .int))) := by
  intro a b; cases a <;> cases b <;> decide +kernel
theorem kb_none : ∀ b : Ty, kitB "NoneType" (tyN b) = some false := by intro b; cases b <;> decide +kernel
theorem kb_of {d : D} (t : Ty) (hd : d.depth = d.depth) (q : dTy d ≠ "?") : kitB (dTy d) (tyN t) = some (isTy t d) := by
  cases d with
  | none => rw [show dTy .none = "NoneType" from rfl, kb_none]; cases t <;> rfl
  | bool b => rw [show dTy (.bool b) = tyN .bool from rfl, kb_all]; cases t <;> rfl
  | int b => rw [show dTy (.int b) = tyN .int from rfl, kb_all]; cases t <;> rfl
  | str b => rw [show dTy (.str b) = tyN .str from rfl, kb_all]; cases t <;> rfl
  | list b => rw [show dTy (.list b) = tyN .list from rfl, kb_all]; cases t <;> rfl
  | tuple b => rw [show dTy (.tuple b) = tyN .tuple from rfl, kb_all]; cases t <;> rfl
  | dict b => rw [show dTy (.dict b) = tyN .dict from rfl, kb_all]; cases t <;> rfl
theorem cn_ty {K : PySem.W.Frag} {F H : Hp} {v : V} {d : D} (h : Cn K F H v d) : dTy d ≠ "?" := by
  cases h <;> simp [dTy]
theorem kany {K : PySem.W.Frag} {d : D} (q : dTy d ≠ "?") : ∀ ts : List Ty, PySem.W.kitAny K (.type (dTy d)) (ts.map fun t => Value.type (tyN t)) = some (ts.any fun t => isTy t d)
  | [] => kitAny_nil
  | t :: ts => by
    rw [List.map_cons, List.any_cons]
    have h1 := kit_ty (K := K) (kb_of t rfl q)
    refine kitAny_cons h1 (fun z => ?_) fun z => by rw [z]; rfl
    rw [z]
    simpa using kany q ts
/-- class names as values -/
def tCs (cs : List V) : TA := fun _ H Q => Q cs H
/-- these exprs are the types' names -/
def IsTys (X : Cx) : List Expr → List Ty → Prop
  | [], [] => True
  | .Name nm _ :: es, t :: ts => Gl X nm ∧ X.mg nm = none ∧ bootBuiltins nm = some (.type (tyN t)) ∧ nm ≠ "__name__" ∧ (nm == ("__debug__" : Str)) = false ∧ IsTys X es ts
  | _, _ => False
theorem pa_tys : ∀ {es : List Expr} {ts : List Ty}, IsTys X es ts → PA X es (tCs (ts.map fun t => V.ty (tyN t)))
  | [], [], _ => pa_nil
  | .Name nm p :: es, t :: ts, h => by
    obtain ⟨h1, h2, h3, h4, h5, h6⟩ := h
    exact pa_cons (t := tCs (ts.map fun t => V.ty (tyN t))) (te := tC (V.ty (tyN t))) (pe_bltn h1 h2 h3 rfl h4 h5) (pa_tys h6) rfl
  | [], _ :: _, h => h.elim
  | .Name _ _ :: _, [], h => h.elim
  | .BoolOp _ _ _ :: _, _, h => by simp [IsTys] at h
  | .NamedExpr _ _ _ :: _, _, h => by simp [IsTys] at h
  | .BinOp _ _ _ _ :: _, _, h => by simp [IsTys] at h
  | .UnaryOp _ _ _ :: _, _, h => by simp [IsTys] at h
  | .Lambda _ _ _ _ :: _, _, h => by simp [IsTys] at h
  | .IfExp _ _ _ _ :: _, _, h => by simp [IsTys] at h
  | .Dict _ _ _ :: _, _, h => by simp [IsTys] at h
  | .Set _ _ _ :: _, _, h => by simp [IsTys] at h
  | .ListComp _ _ _ _ :: _, _, h => by simp [IsTys] at h
  | .SetComp _ _ _ _ :: _, _, h => by simp [IsTys] at h
  | .DictComp _ _ _ _ _ :: _, _, h => by simp [IsTys] at h
  | .GeneratorExp _ _ _ _ :: _, _, h => by simp [IsTys] at h
  | .Await _ _ :: _, _, h => by simp [IsTys] at h
  | .Yield _ _ :: _, _, h => by simp [IsTys] at h
  | .YieldFrom _ _ :: _, _, h => by simp [IsTys] at h
  | .Compare _ _ _ _ :: _, _, h => by simp [IsTys] at h
  | .Call _ _ _ _ :: _, _, h => by simp [IsTys] at h
  | .FormattedValue _ _ _ _ :: _, _, h => by simp [IsTys] at h
  | .JoinedStr _ _ :: _, _, h => by simp [IsTys] at h
  | .Constant _ _ _ :: _, _, h => by simp [IsTys] at h
  | .Attribute _ _ _ :: _, _, h => by simp [IsTys] at h
  | .Subscript _ _ _ :: _, _, h => by simp [IsTys] at h
  | .Starred _ _ :: _, _, h => by simp [IsTys] at h
  | .List _ _ :: _, _, h => by simp [IsTys] at h
  | .Tuple _ _ _ :: _, _, h => by simp [IsTys] at h
  | .Slice _ _ _ _ :: _, _, h => by simp [IsTys] at h
theorem clsv_all : ∀ ts : List Ty, Paired ClsV (ts.map fun t => V.ty (tyN t)) (ts.map fun t => Value.type (tyN t))
  | [] => .nil
  | t :: ts => .cons (.ty _) (clsv_all ts)
theorem boot_isi : bootBuiltins "isinstance" = some (.builtin "isinstance") := by decide +kernel
theorem isi_ev {ts : List Ty} {ρ ρ' : Env} {r : RV} (e : evE C (.bi (.isi ts) (.cons a .nil)) ρ = some (r, ρ')) :
    ∃ p d, evE C a ρ = some (p, ρ') ∧ cont ρ' p = some d ∧ scrD d = false ∧ r = .sh (.bool (ts.any fun t => isTy t d)) := by
  simp only [evE, evR] at e
  obtain ⟨q, e1, e⟩ := Option.bind_eq_some_iff.mp e
  obtain ⟨p, e2, e1⟩ := Option.bind_eq_some_iff.mp e1
  simp only [Option.bind_some] at e1
  cases e1
  obtain ⟨ds, e3, e⟩ := Option.bind_eq_some_iff.mp e
  simp only [conts] at e3
  obtain ⟨d, e4, e3⟩ := Option.bind_eq_some_iff.mp e3
  cases e3
  obtain ⟨w, e5, e⟩ := Option.map_eq_some_iff.mp e
  cases e
  simp only [biEv] at e5
  split at e5
  · cases e5
  · rename_i hs
    cases e5
    exact ⟨p.1, d, e2, e4, by simpa using hs, rfl⟩
theorem s_isi {t : Ty} {p : Pos} (hg : Gl X "isinstance") (hm : X.mg "isinstance" = none) (hs : notStar x = true) (ha : PE X x (tE X.K pa (evE C a))) (ht : IsTys X [y] [t]) :
    PE X (.Call (.Name "isinstance" p) [x, y] [] pos) (tE X.K pa (evE C (.bi (.isi [t]) (.cons a .nil)))) := by
  refine pe_imp (pe_callB call_isi hg hm boot_isi (pa_cons ha (pa_tys ht) (star_cons hs)) (by decide) (by decide) (star_cons hs) (star_none ?_)) fun σ H Q ⟨F, ρ, r, ρ', R, e, k⟩ => ?_
  · cases y <;> first | rfl | (simp [IsTys] at ht)
  obtain ⟨p, d, e1, e2, e3, rfl⟩ := isi_ev e
  refine ⟨F, ρ, p, ρ', R, e1, fun v1 F1 H1 R1 s1 w1 => ?_⟩
  have cn := w1.cn R1 e2
  have q := cn_ty cn
  refine ⟨v1, _, _, _, _, rfl, .ty (tyN t), tyx_of cn R1.sub e3, ?_, k _ F1 H1 R1 s1 (.bl _)⟩
  rw [show ([t].any fun t => isTy t d) = isTy t d by simp]
  exact kit_ty (kb_of t rfl q)
theorem s_isiT {ts : List Ty} {p p2 : Pos} {kk : Nat} {ys : List Expr} (hl : ts.length ≤ 100) (hg : Gl X "isinstance") (hm : X.mg "isinstance" = none) (hs : notStar x = true) (ha : PE X x (tE X.K pa (evE C a))) (ht : IsTys X ys ts) :
    PE X (.Call (.Name "isinstance" p) [x, .Tuple ys kk p2] [] pos) (tE X.K pa (evE C (.bi (.isi ts) (.cons a .nil)))) := by
  refine pe_imp (pe_callB call_isiT hg hm boot_isi (pa_cons ha (pa_cons (pe_tup (pa_tys ht)) pa_nil rfl) (star_cons hs)) (by decide) (by decide) (star_cons hs) (star_none rfl)) fun σ H Q ⟨F, ρ, r, ρ', R, e, k⟩ => ?_
  obtain ⟨p, d, e1, e2, e3, rfl⟩ := isi_ev e
  refine ⟨F, ρ, p, ρ', R, e1, fun v1 F1 H1 R1 s1 w1 => ⟨by simp [sizeLine_eq]; omega, fun l n => ?_⟩⟩
  have R2 := R1.allocF (o := .tup (ts.map fun t => V.ty (tyN t))) n
  have s2 : ES (Own ρ σ) F H (Own ρ' σ) (upd F1 l (.tup (ts.map fun t => V.ty (tyN t)))) (upd H1 l (.tup (ts.map fun t => V.ty (tyN t)))) := s1.trans (.allocF R1.sub n)
  have cn := (w1.goes R s1 (ES.allocF R1.sub n)).cn R2 e2
  exact ⟨v1, l, _, _, _, _, rfl, upd_same, clsv_all ts, tyx_of cn R2.sub e3, kany (cn_ty cn) ts, k _ _ _ R2 s2 (.bl _)⟩

end
end PI

set_option Elab.async false
set_option linter.all false
set_option maxRecDepth 100000
set_option maxHeartbeats 4000000
/-! PIn: methods that change, calls of defs. -/
namespace PI
set_option autoImplicit false
open PySem PySem.Spec PySem.W L2
open PyProof.Rows hiding St

section
variable {K : PySem.W.Frag} {pa : List Addr} {ρ ρ' : Env} {σ : St} {F H F2 H2 : Hp} {Q : VK} {r : RV}
theorem set_ow {i : Nat} {t : Option Nat} {c c' : D} (e : ρ[i]? = some (.ow t c)) {j : Nat} {u : Option Nat} {x : D} (h : (ρ.set i (.ow t c'))[j]? = some (.ow u x)) : ∃ x', ρ[j]? = some (.ow u x') ∧ (j = i → u = t ∧ x = c') ∧ (j ≠ i → x = x') := by
  have hi : i < ρ.length := (List.getElem?_eq_some_iff.mp e).1
  by_cases hj : j = i
  · subst hj
    rw [getE_set_self hi] at h
    cases h
    exact ⟨c, e, fun _ => ⟨rfl, rfl⟩, fun z => absurd rfl z⟩
  · rw [List.getElem?_set_ne (Ne.symm hj)] at h
    exact ⟨x, h, fun z => absurd z hj, fun _ => rfl⟩
/-- a slot's own object is changed -/
theorem Rel.change (R : Rel K pa ρ σ F H) {i : Nat} {t : Option Nat} {c c' : D} {a : Addr} {o : HO} (e : ρ[i]? = some (.ow t c)) (ev : σ[i]? = some (some (.ref a))) (top : Top K F (upd H a o) a c') :
    Rel K pa (ρ.set i (.ow t c')) σ F (upd H a o) ∧ ES (Own ρ σ) F H (Own (ρ.set i (.ow t c')) σ) F (upd H a o) := by
  have hFa : F a = none := R.unF ⟨i, t, c, e, ev⟩
  have oi : Own ρ σ a := ⟨i, t, c, e, ev⟩
  have own : ∀ b, Own (ρ.set i (.ow t c')) σ b → Own ρ σ b := fun b ⟨j, u, x, h1, h2⟩ => let ⟨x', g, _⟩ := set_ow e h1; ⟨j, u, x', g, h2⟩
  have hi : i < ρ.length := (List.getElem?_eq_some_iff.mp e).1
  refine ⟨⟨by simpa using R.len, fun b u h => ?_, fun j d h => ?_, fun j u x h => ?_, fun j k u w x y b h1 h2 g1 g2 => ?_⟩, ⟨⟨Sub.rfl', fun b u h n => ?_, fun b h => .inl h, fun b h => .inl (own b h), fun b h => ?_⟩, own⟩⟩
  · have : b ≠ a := fun z => by subst z; rw [hFa] at h; cases h
    rw [upd_ne this]; exact R.sub b u h
  · by_cases hj : j = i
    · subst hj; rw [getE_set_self hi] at h; cases h
    · rw [List.getElem?_set_ne (Ne.symm hj)] at h
      exact R.sh j d h
  · obtain ⟨x', g, g1, g2⟩ := set_ow e h
    by_cases hj : j = i
    · obtain ⟨rfl, rfl⟩ := g1 hj
      subst hj
      obtain ⟨a', z1, z2, z3, z4⟩ := R.ow j _ _ g
      rw [ev] at z1
      cases z1
      exact ⟨a, ev, hFa, top, z4⟩
    · obtain rfl := g2 hj
      obtain ⟨a', z1, z2, z3, z4⟩ := R.ow j _ _ g
      have : a' ≠ a := fun z => by subst z; exact hj (R.inj j i u t _ _ a' g e z1 ev)
      exact ⟨a', z1, z2, z3.keep Sub.rfl' fun o q => by rw [upd_ne this]; exact q, z4⟩
  · obtain ⟨x', q1, _⟩ := set_ow e h1
    obtain ⟨y', q2, _⟩ := set_ow e h2
    exact R.inj j k u w x' y' b q1 q2 g1 g2
  · have : b ≠ a := fun z => by subst z; exact n oi
    rw [upd_ne this]; exact h
  · by_cases z : b = a
    · subst z; rw [upd_same]; exact nofun
    · rw [upd_ne z]; exact h
theorem giveBack_spec : ∀ {is : List Nat} {ds : List D} {ρ ρ' : Env}, giveBack ρ is ds = some ρ' → is.Nodup → ρ'.length = ρ.length ∧ (∀ j : Nat, j ∉ is → ρ'[j]? = ρ[j]?) ∧ ∀ (k i : Nat), is[k]? = some i → ∃ (t : Option Nat) (d0 d : D), ρ[i]? = some (Sl.ow t d0) ∧ ds[k]? = some d ∧ ρ'[i]? = some (Sl.ow t d)
  | [], [], ρ, ρ', e, _ => by cases e; exact ⟨rfl, fun _ _ => rfl, fun k i h => by simp at h⟩
  | [], _ :: _, ρ, ρ', e, _ => by cases e
  | _ :: _, [], ρ, ρ', e, _ => by cases e
  | i :: is, d :: ds, ρ, ρ', e, nd => by
    simp only [giveBack] at e
    split at e
    · rename_i t d0 q
      obtain ⟨n1, n2⟩ := List.nodup_cons.mp nd
      obtain ⟨h1, h2, h3⟩ := giveBack_spec e n2
      have q' := at_some q nofun
      have hi : i < ρ.length := (List.getElem?_eq_some_iff.mp q').1
      refine ⟨by rw [h1]; simp, fun j hj => ?_, fun k j h => ?_⟩
      · simp only [List.mem_cons, not_or] at hj
        rw [h2 j hj.2, List.getElem?_set_ne (Ne.symm hj.1)]
      · cases k with
        | zero =>
          simp only [List.getElem?_cons_zero, Option.some.injEq] at h
          subst h
          exact ⟨t, d0, d, q', rfl, by rw [h2 i n1, getE_set_self hi]⟩
        | succ k =>
          simp only [List.getElem?_cons_succ] at h
          obtain ⟨t2, d2, d3, g1, g2, g3⟩ := h3 k j h
          have : j ≠ i := fun z => by subst z; exact n1 (List.mem_of_getElem? h)
          rw [List.getElem?_set_ne (Ne.symm this)] at g1
          exact ⟨t2, d2, d3, g1, g2, g3⟩
    · cases e
end

/-- the arguments stand; la: where the lent ones do -/
inductive ArgV (K : PySem.W.Frag) (F H : Hp) : List V → List Ar → List Addr → Prop
  | nil : ArgV K F H [] [] []
  | sh {v : V} {d : D} {vs : List V} {as : List Ar} {la : List Addr} : DP K F v d → ArgV K F H vs as la → ArgV K F H (v :: vs) (.sh d :: as) la
  | io {a : Addr} {d : D} {vs : List V} {as : List Ar} {la : List Addr} : F a = none → Top K F H a d → ArgV K F H vs as la → ArgV K F H (.ref a :: vs) (.io d :: as) (a :: la)
/-- what the lent ones hold -/
inductive Outs (K : PySem.W.Frag) (F H : Hp) : List Addr → List D → Prop
  | nil : Outs K F H [] []
  | cons {a : Addr} {d : D} {la : List Addr} {ds : List D} : F a = none → Top K F H a d → Outs K F H la ds → Outs K F H (a :: la) (d :: ds)
/-- the value that is given back -/
def ResV (K : PySem.W.Frag) (H0 F H : Hp) : Bool → D → V → Prop
  | true, d, v => ∃ a, v = .ref a ∧ H0 a = none ∧ F a = none ∧ Top K F H a d
  | false, d, v => DP K F v d
/-- a def's promise: it does as cal does -/
def spI (K : PySem.W.Frag) (cal : List Ar → Option (Bool × D × List D)) : Sp := fun vs H Q E => ∃ F as la fr d os, Sub F H ∧ ArgV K F H vs as la ∧ la.Nodup ∧ cal as = some (fr, d, os) ∧
  ∀ v F' H', Sub F' H' → Stp (fun b => b ∈ la) F H (fun b => b ∈ la) F' H' → Outs K F' H' la os → ResV K H F' H' fr d v → Q v H'
theorem Outs.get {K : PySem.W.Frag} {F H : Hp} : ∀ {la : List Addr} {ds : List D}, Outs K F H la ds → ∀ {k : Nat} {a : Addr} {d : D}, la[k]? = some a → ds[k]? = some d → F a = none ∧ Top K F H a d
  | _, _, .cons h1 h2 t, 0, a, d, e1, e2 => by simp at e1 e2; subst e1 e2; exact ⟨h1, h2⟩
  | _, _, .cons h1 h2 t, k + 1, a, d, e1, e2 => Outs.get t (k := k) (by simpa using e1) (by simpa using e2)
  | _, _, .nil, _, _, _, e1, _ => by simp at e1

/-- the arguments of a call -/
inductive APs (K : PySem.W.Frag) (σ : St) (F : Hp) : List V → List Ap → Prop
  | nil : APs K σ F [] []
  | sh {v : V} {d : D} {vs : List V} {as : List Ap} : DP K F v d → APs K σ F vs as → APs K σ F (v :: vs) (.sh d :: as)
  | io {v : V} {i : Nat} {vs : List V} {as : List Ap} : σ[i]? = some (some v) → APs K σ F vs as → APs K σ F (v :: vs) (.io i :: as)
def tAp (K : PySem.W.Frag) (pa : List Addr) (ev : Env → Option (List Ap × Env)) : TA := fun σ H Q => ∃ F ρ aps ρ' ars, Rel K pa ρ σ F H ∧ ev ρ = some (aps, ρ') ∧ apArgs ρ' aps = some ars ∧
  ∀ vs F' H', Rel K pa ρ' σ F' H' → ES (Own ρ σ) F H (Own ρ' σ) F' H' → APs K σ F' vs aps → Q vs H'
theorem APs.args {K : PySem.W.Frag} {pa : List Addr} {ρ : Env} {σ : St} {F H : Hp} (R : Rel K pa ρ σ F H) : ∀ {vs : List V} {aps : List Ap} {ars : List Ar}, APs K σ F vs aps → apArgs ρ aps = some ars →
    ∃ la : List Addr, ArgV K F H vs ars la ∧ la.length = (apSlots aps).length ∧ ∀ (k i : Nat), (apSlots aps)[k]? = some i → ∃ (t : Option Nat) (d : D) (a : Addr), ρ[i]? = some (Sl.ow t d) ∧ la[k]? = some a ∧ σ[i]? = some (some (V.ref a))
  | _, _, _, .nil, e => by cases e; exact ⟨[], .nil, rfl, fun k i h => by simp [apSlots] at h⟩
  | _, _, _, .sh h t, e => by
    simp only [apArgs] at e
    obtain ⟨as, e1, e⟩ := Option.bind_eq_some_iff.mp e
    cases e
    obtain ⟨la, g1, g2, g3⟩ := APs.args R t e1
    exact ⟨la, .sh h g1, g2, g3⟩
  | _, _, _, .io (i := i) h t, e => by
    simp only [apArgs] at e
    split at e
    · rename_i tt d q
      obtain ⟨as, e1, e⟩ := Option.bind_eq_some_iff.mp e
      cases e
      obtain ⟨la, g1, g2, g3⟩ := APs.args R t e1
      have q' := at_some q nofun
      obtain ⟨a, h1, h2, h3, h4⟩ := R.ow i tt d q'
      rw [h] at h1
      cases h1
      refine ⟨a :: la, .io h2 h3 g1, by simp [apSlots, g2], fun k j hk => ?_⟩
      cases k with
      | zero =>
        simp only [apSlots, List.getElem?_cons_zero, Option.some.injEq] at hk
        subst hk
        exact ⟨tt, d, a, q', rfl, h⟩
      | succ k =>
        simp only [apSlots, List.getElem?_cons_succ] at hk
        obtain ⟨t2, d2, a2, z1, z2, z3⟩ := g3 k j hk
        exact ⟨t2, d2, a2, z1, by simpa using z2, z3⟩
    · cases e

section
variable {X : Cx} {pa : List Addr} {C : Ctx} {x y z : Expr} {a b c : E} {pos : Pos}
theorem a_nil : PA X [] (tAp X.K pa (evA C .nil)) := pa_imp pa_nil fun σ H Q ⟨F, ρ, aps, ρ', ars, R, e, e2, k⟩ => by
  simp only [evA] at e
  cases e
  exact k [] F H R .rfl' .nil
theorem args_tail {ρ : Env} {p : Ap} {aps : List Ap} {ars : List Ar} (e : apArgs ρ (p :: aps) = some ars) : ∃ as, apArgs ρ aps = some as := by
  cases p with
  | sh d =>
    simp only [apArgs] at e
    obtain ⟨as, e1, e⟩ := Option.bind_eq_some_iff.mp e
    exact ⟨as, e1⟩
  | io i =>
    simp only [apArgs] at e
    split at e
    · obtain ⟨as, e1, e⟩ := Option.bind_eq_some_iff.mp e
      exact ⟨as, e1⟩
    · cases e
theorem a_val {xs : List Expr} {as : As} (hs : notStar x = true) (h1 : PE X x (tE X.K pa (evE C a))) (h2 : PA X xs (tAp X.K pa (evA C as))) : PA X (x :: xs) (tAp X.K pa (evA C (.val a as))) :=
  pa_imp (pa_cons h1 h2 (star_cons hs)) fun σ H Q ⟨F, ρ, aps, ρ', ars, R, e, e4, k⟩ => by
    simp only [evA] at e
    obtain ⟨p, e1, e⟩ := Option.bind_eq_some_iff.mp e
    obtain ⟨p', e2, e⟩ := Option.bind_eq_some_iff.mp e
    obtain ⟨q, e3, e⟩ := Option.bind_eq_some_iff.mp e
    cases e
    obtain ⟨ars', e5⟩ := args_tail e4
    refine ⟨F, ρ, p.1, p.2, R, e1, fun v1 F1 H1 R1 s1 w1 => ?_⟩
    obtain ⟨F1', R1', w1', s1', sf⟩ := w1.frz R1 R s1 e2
    refine ⟨F1', p'.2, q.1, q.2, ars', R1', e3, e5, fun vs F2 H2 R2 s2 w2 => ?_⟩
    exact k _ F2 H2 R2 (s1'.trans s2) (.sh (w1'.sub s2.stp.mono) w2)
theorem a_io {xs : List Expr} {i : Nat} {nm : Str} {p : Pos} {as : As} (hv : PE X (.Name nm p) (tVar i)) (h2 : PA X xs (tAp X.K pa (evA C as))) : PA X (.Name nm p :: xs) (tAp X.K pa (evA C (.io i as))) :=
  pa_imp (pa_cons hv h2 rfl) fun σ H Q ⟨F, ρ, aps, ρ', ars, R, e, e4, k⟩ => by
    simp only [evA] at e
    split at e
    · rename_i t d q0
      obtain ⟨q, e1, e⟩ := Option.bind_eq_some_iff.mp e
      cases e
      obtain ⟨ars', e5⟩ := args_tail e4
      obtain ⟨v, h1, _⟩ := R.ow i t d (at_some q0 nofun)
      exact ⟨.ref v, h1, F, ρ, q.1, q.2, ars', R, e1, e5, fun vs F2 H2 R2 s2 w2 => k _ F2 H2 R2 s2 (.io h1 w2)⟩
    · cases e
theorem nodup_la {K : PySem.W.Frag} {ρ : Env} {σ : St} {F H : Hp} (R : Rel K pa ρ σ F H) {is : List Nat} {la : List Addr} (nd : is.Nodup) (hl : la.length = is.length)
    (h : ∀ (k i : Nat), is[k]? = some i → ∃ (t : Option Nat) (d : D) (a : Addr), ρ[i]? = some (Sl.ow t d) ∧ la[k]? = some a ∧ σ[i]? = some (some (V.ref a))) : la.Nodup := by
  refine List.pairwise_iff_getElem.mpr fun i j hi hj hij e => ?_
  have hi2 : i < is.length := by omega
  have hj2 : j < is.length := by omega
  obtain ⟨t, d, a, g1, g2, g3⟩ := h i is[i] (by simp [hi2])
  obtain ⟨t', d', a', z1, z2, z3⟩ := h j is[j] (by simp [hj2])
  rw [List.getElem?_eq_getElem hi] at g2
  rw [List.getElem?_eq_getElem hj] at z2
  cases g2
  cases z2
  rw [← e] at z3
  have := R.inj _ _ _ _ _ _ _ g1 z1 g3 z3
  have := (List.getElem_inj nd).mp this
  omega
/-- after a call -/
theorem call_end {K : PySem.W.Frag} {ρ0 ρ ρ' : Env} {σ : St} {F0 H0 F H F' H' : Hp} {is : List Nat} {la : List Addr} {os : List D} (R : Rel K pa ρ σ F H) (s0 : ES (Own ρ0 σ) F0 H0 (Own ρ σ) F H) (nd : is.Nodup) (hl : la.length = is.length)
    (h : ∀ (k i : Nat), is[k]? = some i → ∃ (t : Option Nat) (d : D) (a : Addr), ρ[i]? = some (Sl.ow t d) ∧ la[k]? = some a ∧ σ[i]? = some (some (V.ref a)))
    (sb : Sub F' H') (st : Stp (fun b => b ∈ la) F H (fun b => b ∈ la) F' H') (ou : Outs K F' H' la os) (gb : giveBack ρ is os = some ρ') : Rel K pa ρ' σ F' H' ∧ ES (Own ρ0 σ) F0 H0 (Own ρ' σ) F' H' := by
  obtain ⟨g1, g2, g3⟩ := giveBack_spec gb nd
  -- what is lent is owned
  have lo : ∀ b, b ∈ la → Own ρ σ b := fun b hb => by
    obtain ⟨k, hk⟩ := List.mem_iff_getElem?.mp hb
    have hk2 : k < is.length := by have := (List.getElem?_eq_some_iff.mp hk).1; omega
    obtain ⟨t, d, a, q1, q2, q3⟩ := h k is[k] (by simp [hk2])
    rw [hk] at q2
    cases q2
    exact ⟨_, t, d, q1, q3⟩
  have back : ∀ (j : Nat) (t : Option Nat) (d : D), ρ'[j]? = some (.ow t d) → ∃ d0, ρ[j]? = some (.ow t d0) ∧ ((j ∉ is ∧ d0 = d) ∨ ∃ k, is[k]? = some j ∧ os[k]? = some d) := fun j t d e => by
    by_cases hj : j ∈ is
    · obtain ⟨k, hk⟩ := List.mem_iff_getElem?.mp hj
      obtain ⟨t2, d0, d2, q1, q2, q3⟩ := g3 k j hk
      rw [q3] at e
      cases e
      exact ⟨d0, q1, .inr ⟨k, hk, q2⟩⟩
    · rw [g2 j hj] at e
      exact ⟨d, e, .inl ⟨hj, rfl⟩⟩
  have own : ∀ b, Own ρ' σ b → Own ρ σ b := fun b ⟨j, t, d, e1, e2⟩ => let ⟨d0, q, _⟩ := back j t d e1; ⟨j, t, d0, q, e2⟩
  have unl : ∀ (j : Nat) (a : Addr) (t : Option Nat) (d : D), ρ[j]? = some (.ow t d) → σ[j]? = some (some (.ref a)) → j ∉ is → a ∉ la := fun j a t d e1 e2 hj hb => by
    obtain ⟨k, hk⟩ := List.mem_iff_getElem?.mp hb
    have hk2 : k < is.length := by have := (List.getElem?_eq_some_iff.mp hk).1; omega
    obtain ⟨t', d', a', q1, q2, q3⟩ := h k is[k] (by simp [hk2])
    rw [hk] at q2
    cases q2
    have := R.inj _ _ _ _ _ _ a e1 q1 e2 q3
    exact hj (this ▸ List.getElem_mem hk2)
  refine ⟨⟨by rw [g1]; exact R.len, sb, fun j d e => ?_, fun j t d e => ?_, fun i j t u d e a e1 e2 v1 v2 => ?_⟩, s0.trans ⟨⟨st.mono, fun b o q n => st.keep b o q fun z => n (lo b z), fun b q => ?_, fun b q => .inl (own b q), st.dom⟩, own⟩⟩
  · have hj : j ∉ is := fun z => by
      obtain ⟨k, hk⟩ := List.mem_iff_getElem?.mp z
      obtain ⟨t2, d0, d2, q1, q2, q3⟩ := g3 k j hk
      rw [q3] at e
      cases e
    rw [g2 j hj] at e
    obtain ⟨v, q1, q2⟩ := R.sh j d e
    exact ⟨v, q1, q2.sub st.mono⟩
  · obtain ⟨d0, q1, q2⟩ := back j t d e
    obtain ⟨a, z1, z2, z3, z4⟩ := R.ow j t d0 q1
    rcases q2 with ⟨hj, rfl⟩ | ⟨k, hk, hk2⟩
    · have na := unl j a t d0 q1 z1 hj
      refine ⟨a, z1, ?_, z3.keep st.mono fun o q => st.keep a o q na, z4⟩
      cases q : F' a with
      | none => rfl
      | some o =>
        rcases st.newF a (by rw [q]; exact nofun) with w | w | w | ⟨ys, w⟩
        · exact absurd z2 w
        · exact absurd w z3.there
        · exact absurd w na
        · exact absurd w (z3.notTup ys)
    · obtain ⟨t', d', a', w1, w2, w3⟩ := h k j hk
      rw [z1] at w3
      cases w3
      obtain ⟨o1, o2⟩ := ou.get w2 hk2
      exact ⟨a, z1, o1, o2, z4⟩
  · obtain ⟨d0, q1, _⟩ := back i t d e1
    obtain ⟨e0, q2, _⟩ := back j u e e2
    exact R.inj i j t u d0 e0 a q1 q2 v1 v2
  · rcases st.newF b q with w | w | w | w
    · exact .inl w
    · exact .inr (.inl w)
    · exact .inr (.inr (.inl (lo b w)))
    · exact .inr (.inr (.inr w))
theorem s_callK {e0 : Expr} {f : Nat} {as : As} (key : PE X e0 (fun σ H Q => tAp X.K pa (evA C as) σ H fun vs H1 => spI X.K (C.cal f) vs H1 Q (fun _ _ _ => False))) : PE X e0 (tE X.K pa (evE C (.call f as))) := by
  refine pe_imp key fun σ H Q ⟨F, ρ, r, ρ', R, e, k⟩ => ?_
  simp only [evE] at e
  obtain ⟨q, e1, e⟩ := Option.bind_eq_some_iff.mp e
  obtain ⟨ars, e2, e⟩ := Option.bind_eq_some_iff.mp e
  split at e
  · rename_i nd
    obtain ⟨g, e3, e⟩ := Option.bind_eq_some_iff.mp e
    obtain ⟨ρ2, e4, e⟩ := Option.map_eq_some_iff.mp e
    refine ⟨F, ρ, q.1, q.2, ars, R, e1, e2, fun vs F1 H1 R1 s1 w1 => ?_⟩
    obtain ⟨la, v1, v2, v3⟩ := w1.args R1 e2
    refine ⟨F1, ars, la, g.1, g.2.1, g.2.2, R1.sub, v1, nodup_la R1 nd v2 v3, e3, fun v F' H' sb st ou rv => ?_⟩
    obtain ⟨R', s'⟩ := call_end R1 s1 nd v2 v3 sb st ou e4
    rw [Prod.mk.injEq] at e
    obtain ⟨er, rfl⟩ := e
    refine k v F' H' R' s' ?_
    subst er
    cases hb2 : g.1 with
    | true =>
      rw [hb2] at rv
      obtain ⟨a, r1, r2, r3, r4⟩ := rv
      exact ⟨a, r1, Classical.byContradiction fun z => s1.stp.dom a z r2, r3, r4⟩
    | false =>
      rw [hb2] at rv
      exact rv
  · cases e
theorem s_call0 {f : Nat} {k : Nat} {fa : Addr} {fd : FuncData} {ps : List Str} {nm : Str} {p : Pos} (Fk : FnOk X.prog X.w X.K X.mg X.base CX0 k fa fd ps (spI X.K (C.cal f))) (hr : Room k X.A) (hg : Gl X nm) (hm : X.mg nm = some (.ref fa))
    (hk : PySem.W.keepIn X.K (.ref fa) = true) (hb : Binds X.K fd ps []) (hd : (nm == ("__debug__" : Str)) = false) : PE X (.Call (.Name nm p) [] [] pos) (tE X.K pa (evE C (.call f .nil))) :=
  s_callK (pe_imp (pe_call0 (E := fun _ _ _ => False) Fk hr hg hm hk hb .nil pass0 hd) fun σ H Q ⟨F, ρ, aps, ρ', ars, R, e, e2, k⟩ => by
    simp only [evA] at e
    cases e
    exact k [] F H R .rfl' .nil)
theorem s_call {f : Nat} {as : As} {xs : List Expr} {k : Nat} {fa : Addr} {fd : FuncData} {ps : List Str} {nm : Str} {p : Pos} (Fk : FnOk X.prog X.w X.K X.mg X.base CX0 k fa fd ps (spI X.K (C.cal f))) (hr : Room k X.A) (hg : Gl X nm) (hm : X.mg nm = some (.ref fa))
    (hk : PySem.W.keepIn X.K (.ref fa) = true) (hb : Binds X.K fd ps []) (hd : (nm == ("__debug__" : Str)) = false) (hs : (x :: xs).all notStar = true) (ha : PA X (x :: xs) (tAp X.K pa (evA C as))) :
    PE X (.Call (.Name nm p) (x :: xs) [] pos) (tE X.K pa (evE C (.call f as))) := by
  simp only [List.all_cons, Bool.and_eq_true] at hs
  refine s_callK (pe_imp (pe_call (E := fun _ _ _ => False) Fk hr hg hm hk hb .nil pass0 ha hd (star_cons hs.1) (star_none hs.2)) fun σ H Q ⟨F, ρ, aps, ρ', ars, R, e, e2, k⟩ =>
    ⟨F, ρ, aps, ρ', ars, R, e, e2, fun vs F' H' R' s' w' => ?_⟩)
  show spI X.K (C.cal f) (vs ++ []) H' Q _
  rw [List.append_nil]
  exact k vs F' H' R' s' w'
theorem few_ok {env : PySem.Env} {cpos : Pos} : ∀ {es : List Expr}, es.all notStar = true → es.length < 30 → ((backTo cpos (starEach es env)).all (fun x => !x.1) && (backToKw cpos (keywordEach [] env)).all (fun x => x.1.isSome)
      && decide (es.length + ([] : List Keyword).length + (if ([] : List Keyword).isEmpty then 0 else 1) < 30)) = true := by
  intro es h hl
  have h1 : (backTo cpos (starEach es env)).all (fun x => !x.1) = true := by
    clear hl
    induction es with
    | nil => rfl
    | cons e es ih =>
      simp only [List.all_cons, Bool.and_eq_true] at h
      rw [star_cons h.1]
      exact ih h.2
  rw [h1]
  simp only [List.length_nil, List.isEmpty_nil, if_true, Bool.true_and]
  rw [decide_eq_true (by omega)]
  rfl
/-! methods that change -/
theorem s_muL {m : Mu} {i : Nat} {es : Es} {xs : List Expr} {nm name : Str} {p ap : Pos} {T id : String} (hF : muF m = true) (hm : MtR X id (fun x vs H Q => ∃ F a c ds d c', Sub F H ∧ F a = none ∧ x = .ref a ∧ Top X.K F H a c ∧ DPs X.K F vs ds ∧ muEv m c ds = some (d, c') ∧ Chg X.K F H a d c' Q))
    (pat : PlainAttrs T) (slot : Slot T name id) (hty : typeOf (.builtin id) = pure (.type "method_descriptor")) (hT : ∀ c F H a, muK m c = true → Top X.K F H a c → tyV X.K T (.ref a) H)
    (hv : PE X (.Name nm p) (tVar i)) (hl : (ap.endLine == pos.line) = true) (hs : (x :: xs).all notStar = true) (hfew : xs.length < 20) (h : PA X (x :: xs) (tL X.K pa (evL C es))) :
    PE X (.Call (.Attribute (.Name nm p) name ap) (x :: xs) [] pos) (tE X.K pa (evE C (.mu m i es))) := by
  simp only [List.all_cons, Bool.and_eq_true] at hs
  refine pe_imp (pe_bm pat slot hty hm hv h rfl (few_ok (by simp [hs.1, hs.2]) (by simp; omega)) hl (star_cons hs.1) (star_none hs.2)) fun σ H Q ⟨F, ρ, r, ρ', R, e, k⟩ => ?_
  simp only [evE] at e
  split at e
  · rename_i t0 c0 q0
    split at e
    · rename_i hk
      obtain ⟨q, e1, e⟩ := Option.bind_eq_some_iff.mp e
      split at e
      · rename_i t c q1
        obtain ⟨w, e2, e⟩ := Option.map_eq_some_iff.mp e
        cases e
        obtain ⟨a, z1, z2, z3, z4⟩ := R.ow i t0 c0 (at_some q0 nofun)
        refine ⟨.ref a, z1, hT c0 F H a hk z3, F, ρ, q.1, q.2, R, e1, fun vs F1 H1 R1 s1 w1 => ?_⟩
        obtain ⟨a', y1, y2, y3, y4⟩ := R1.ow i t c (at_some q1 nofun)
        rw [z1] at y1
        cases y1
        refine ⟨F1, a, c, q.1, w.1, w.2, R1.sub, y2, rfl, y3, w1, e2, fun v o dp top => ?_⟩
        obtain ⟨R2, s2⟩ := R1.change (at_some q1 nofun) z1 top
        exact k v F1 _ R2 (s1.trans s2) dp
      · cases e
    · cases e
  · cases e
theorem muK_ty {K : PySem.W.Frag} {m : Mu} (hT : m ≠ .update) : ∀ c F H a, muK m c = true → Top K F H a c → tyV K "list" (.ref a) H := fun c F H a hk top => by
  cases top with
  | lst h _ => exact .inl ⟨rfl, _, .inl (.inl h)⟩
  | dk _ _ => cases m <;> first | (cases hk; done) | exact absurd rfl hT
  | dt _ _ => cases m <;> first | (cases hk; done) | exact absurd rfl hT
theorem muK_tyD {K : PySem.W.Frag} : ∀ c F H a, muK .update c = true → Top K F H a c → tyV K "dict" (.ref a) H := fun c F H a hk top => by
  cases top with
  | lst h _ => cases hk
  | dk h _ => exact .inr (.inr (.inl ⟨rfl, .inl ⟨_, h⟩⟩))
  | dt h _ => exact .inr (.inr (.inl ⟨rfl, .inr ⟨_, h⟩⟩))
theorem s_muRK {e0 : Expr} {m : Mu} {i : Nat} {es : Es} (hF : muF m = false) (hT : m ≠ .update)
    (key : PE X e0 (fun σ H Q => ∃ v, σ[i]? = some (some v) ∧ tyV X.K "list" v H ∧ tR X.K pa (evR C es) σ H fun vs H2 => rMu X.K m v vs H2 Q)) : PE X e0 (tE X.K pa (evE C (.mu m i es))) := by
  refine pe_imp key fun σ H Q ⟨F, ρ, r, ρ', R, e, k⟩ => ?_
  simp only [evE] at e
  split at e
  · rename_i t0 c0 q0
    split at e
    · rename_i hk
      rw [hF] at e
      simp only [Bool.false_eq_true, if_false] at e
      obtain ⟨q, e1, e⟩ := Option.bind_eq_some_iff.mp e
      obtain ⟨ds, e3, e⟩ := Option.bind_eq_some_iff.mp e
      split at e
      · rename_i t c q1
        obtain ⟨w, e2, e⟩ := Option.map_eq_some_iff.mp e
        cases e
        obtain ⟨a, z1, z2, z3, z4⟩ := R.ow i t0 c0 (at_some q0 nofun)
        refine ⟨.ref a, z1, muK_ty hT c0 F H a hk z3, F, ρ, q.1, q.2, R, e1, fun vs F1 H1 R1 s1 w1 => ?_⟩
        obtain ⟨a', y1, y2, y3, y4⟩ := R1.ow i t c (at_some q1 nofun)
        rw [z1] at y1
        cases y1
        refine ⟨F1, a, c, ds, w.1, w.2, R1.sub, y2, rfl, y3, w1.cns R1 e3, e2, fun v o dp top => ?_⟩
        obtain ⟨R2, s2⟩ := R1.change (at_some q1 nofun) z1 top
        exact k v F1 _ R2 (s1.trans s2) dp
      · cases e
    · cases e
  · cases e
theorem s_muR {m : Mu} {i : Nat} {es : Es} {xs : List Expr} {nm name : Str} {p ap : Pos} {id : String} (hF : muF m = false) (hm : MtR X id (rMu X.K m)) (slot : Slot "list" name id) (hty : typeOf (.builtin id) = pure (.type "method_descriptor")) (hT : m ≠ .update)
    (hv : PE X (.Name nm p) (tVar i)) (hl : (ap.endLine == pos.line) = true) (hs : (x :: xs).all notStar = true) (hfew : xs.length < 20) (h : PA X (x :: xs) (tR X.K pa (evR C es))) :
    PE X (.Call (.Attribute (.Name nm p) name ap) (x :: xs) [] pos) (tE X.K pa (evE C (.mu m i es))) := by
  simp only [List.all_cons, Bool.and_eq_true] at hs
  exact s_muRK hF hT (pe_imp (pe_bm PySem.F.plainAttrs_list slot hty hm hv h rfl (few_ok (by simp [hs.1, hs.2]) (by simp; omega)) hl (star_cons hs.1) (star_none hs.2)) fun σ H Q ⟨v, h1, h2, h3⟩ => ⟨v, h1, h2, h3⟩)
theorem s_muR0 {m : Mu} {i : Nat} {nm name : Str} {p ap : Pos} {id : String} (hF : muF m = false) (hm : MtR X id (rMu X.K m)) (slot : Slot "list" name id) (hty : typeOf (.builtin id) = pure (.type "method_descriptor")) (hT : m ≠ .update)
    (hv : PE X (.Name nm p) (tVar i)) (hl : (ap.endLine == pos.line) = true) :
    PE X (.Call (.Attribute (.Name nm p) name ap) [] [] pos) (tE X.K pa (evE C (.mu m i .nil))) :=
  s_muRK hF hT (pe_imp (pe_bm0 PySem.F.plainAttrs_list slot hty hm hv rfl hl) fun σ H Q ⟨v, h1, h2, F, ρ, rs, ρ', R, e, k⟩ => by
    simp only [evR] at e
    cases e
    exact ⟨v, h1, h2, k [] F H R .rfl' .nil⟩)
end
end PI

set_option Elab.async false
set_option linter.all false
set_option maxRecDepth 100000
set_option maxHeartbeats 4000000
/-! PIo: what is gone through. -/
namespace PI
set_option autoImplicit false
open PySem PySem.Spec PySem.W L2
open PyProof.Rows hiding St

/-- the iterator gives these data, one after the other -/
def Yields (K : PySem.W.Frag) (J : L2.It) (F : Hp) (ds : List D) : Prop := ∀ (i : Nat) (G H : Hp), Sub F G → Sub G H →
  (∀ d, ds[i]? = some d → J.go i H ∧ ∀ x H', J.yld i H x H' → (H' = H ∧ DP K G x d) ∨ ∃ p o, H p = none ∧ H' = upd H p o ∧ DP K (upd G p o) x d) ∧ (ds.length ≤ i → J.stop i H)
def tI (K : PySem.W.Frag) (pa : List Addr) (ev : Env → Option (List D × Env)) : TI := fun σ H R => ∃ F ρ ds ρ', Rel K pa ρ σ F H ∧ ev ρ = some (ds, ρ') ∧
  ∀ J F' H', Rel K pa ρ' σ F' H' → ES (Own ρ σ) F H (Own ρ' σ) F' H' → ds.length ≤ 16777216 → Yields K J F' ds → R J H'
def Lens (K : PySem.W.Frag) (H : Hp) : Prop := ∀ a xs, (SqL K H a xs ∨ SqT K H a xs) → xs.length ≤ 16777216
theorem pi_len {X : Cx} {tg it : Expr} {wi : TI} (h : PI X tg it wi) : PI X tg it (fun σ H R => wi σ H fun J H1 => Lens X.K H1 → R J H1) := ⟨fun pn s σ H R I q =>
  thn (h.run pn s σ H _ I q) fun v s1 hx => thn hx fun itv s2 ⟨it, fp, tn, J, H', e, I2, T, st, f, r⟩ => ⟨it, fp, tn, J, H', e, I2, T, st, f, r fun a xs hq => by
    have hz : sizeLine = 16777216 := sizeLine_eq
    rcases hq with hq | hq
    · obtain ⟨its, rv, p, hl⟩ := I2.list hq; omega
    · obtain ⟨its, rv, p, hl⟩ := I2.tuple hq; omega⟩⟩
section
variable {K : PySem.W.Frag} {F : Hp} {a b : Addr} {xs ys : List V} {ds es : List D}
theorem yl_list (h : F a = some (.lst xs)) (t : DPs K F xs ds) : Yields K (Itl K a) F ds := fun i G H s1 s2 => by
  have q : SqL K H a xs := .inl (.inl (s2 _ _ (s1 _ _ h)))
  refine ⟨fun d e => ?_, fun hl => ⟨xs, q, by rw [t.len]; exact hl⟩⟩
  obtain ⟨v, e1, e2⟩ := t.get e
  refine ⟨⟨xs, v, q, e1⟩, fun x H' ⟨y1, y2⟩ => .inl ⟨y1, ?_⟩⟩
  have := y2 xs q
  rw [e1] at this
  cases this
  exact e2.sub s1
theorem yl_tup (h : F a = some (.tup xs)) (t : DPs K F xs ds) : Yields K (Itt K a) F ds := fun i G H s1 s2 => by
  have q : SqT K H a xs := .inl (.inl (s2 _ _ (s1 _ _ h)))
  refine ⟨fun d e => ?_, fun hl => ⟨xs, q, by rw [t.len]; exact hl⟩⟩
  obtain ⟨v, e1, e2⟩ := t.get e
  refine ⟨⟨xs, v, q, e1⟩, fun x H' ⟨y1, y2⟩ => .inl ⟨y1, ?_⟩⟩
  have := y2 xs q
  rw [e1] at this
  cases this
  exact e2.sub s1
theorem yl_rng {lo : Int} {n : Nat} : Yields K (Itr lo n) F ((List.range n).map fun k => .int (lo + (k : Nat))) := fun i G H s1 s2 => by
  refine ⟨fun d e => ?_, fun hl => (show n ≤ i by simpa using hl)⟩
  have hi : i < n := by
    have := (List.getElem?_eq_some_iff.mp e).1
    simpa using this
  rw [List.getElem?_map, List.getElem?_range hi] at e
  cases e
  exact ⟨hi, fun x H' ⟨y1, y2⟩ => .inl ⟨y1, by subst y2; exact .int _⟩⟩
theorem dp_pair {G H : Hp} {T : Addr} {x y : V} {d e : D} (s2 : Sub G H) (n : H T = none) (hx : DP K G x d) (hy : DP K G y e) : DP K (upd G T (.tup [x, y])) (.ref T) (.tuple [d, e]) :=
  .tup upd_same (.cons (hx.sub (s2.allocM n)) (.cons (hy.sub (s2.allocM n)) .nil))
theorem yl_zip (h : F a = some (.lst xs)) (t : DPs K F xs ds) (h' : F b = some (.lst ys)) (t' : DPs K F ys es) : Yields K (Itz K a b) F (List.zipWith (fun x y => .tuple [x, y]) ds es) := fun i G H s1 s2 => by
  have q : SqL K H a xs := .inl (.inl (s2 _ _ (s1 _ _ h)))
  have q' : SqL K H b ys := .inl (.inl (s2 _ _ (s1 _ _ h')))
  refine ⟨fun d e => ?_, fun hl => ⟨xs, ys, q, q', by rw [List.length_zipWith] at hl; rw [t.len, t'.len]; omega⟩⟩
  rw [List.getElem?_zipWith] at e
  cases e1 : ds[i]? with
  | none => rw [e1] at e; cases e
  | some d1 =>
    cases e2 : es[i]? with
    | none => rw [e1, e2] at e; cases e
    | some d2 =>
      rw [e1, e2] at e
      cases e
      obtain ⟨v, g1, g2⟩ := t.get e1
      obtain ⟨w, k1, k2⟩ := t'.get e2
      refine ⟨⟨xs, ys, v, w, q, q', g1, k1⟩, fun x H' ⟨T, x1, y1, z1, z2, z3, z4, z5⟩ => .inr ⟨T, _, z2, z3, ?_⟩⟩
      have z4 := z4 xs q
      have z5 := z5 ys q'
      rw [g1] at z4
      rw [k1] at z5
      cases z4
      cases z5
      subst z1
      exact dp_pair s2 z2 (g2.sub s1) (k2.sub s1)
theorem yl_zipT (h : F a = some (.tup xs)) (t : DPs K F xs ds) (h' : F b = some (.tup ys)) (t' : DPs K F ys es) : Yields K (RZ.ItzT K a b) F (List.zipWith (fun x y => .tuple [x, y]) ds es) := fun i G H s1 s2 => by
  have q : SqT K H a xs := .inl (.inl (s2 _ _ (s1 _ _ h)))
  have q' : SqT K H b ys := .inl (.inl (s2 _ _ (s1 _ _ h')))
  refine ⟨fun d e => ?_, fun hl => ⟨xs, ys, q, q', by rw [List.length_zipWith] at hl; rw [t.len, t'.len]; omega⟩⟩
  rw [List.getElem?_zipWith] at e
  cases e1 : ds[i]? with
  | none => rw [e1] at e; cases e
  | some d1 =>
    cases e2 : es[i]? with
    | none => rw [e1, e2] at e; cases e
    | some d2 =>
      rw [e1, e2] at e
      cases e
      obtain ⟨v, g1, g2⟩ := t.get e1
      obtain ⟨w, k1, k2⟩ := t'.get e2
      refine ⟨⟨xs, ys, v, w, q, q', g1, k1⟩, fun x H' ⟨T, x1, y1, z1, z2, z3, z4, z5⟩ => .inr ⟨T, _, z2, z3, ?_⟩⟩
      have z4 := z4 xs q
      have z5 := z5 ys q'
      rw [g1] at z4
      rw [k1] at z5
      cases z4
      cases z5
      subst z1
      exact dp_pair s2 z2 (g2.sub s1) (k2.sub s1)
theorem yl_enm (h : F a = some (.lst xs)) (t : DPs K F xs ds) : Yields K (Ite K a) F (ds.mapIdx fun k x => .tuple [.int (k : Nat), x]) := fun i G H s1 s2 => by
  have q : SqL K H a xs := .inl (.inl (s2 _ _ (s1 _ _ h)))
  refine ⟨fun d e => ?_, fun hl => ⟨xs, q, by rw [t.len]; simpa using hl⟩⟩
  rw [List.getElem?_mapIdx] at e
  obtain ⟨d1, e1, e2⟩ := Option.map_eq_some_iff.mp e
  obtain ⟨v, g1, g2⟩ := t.get e1
  refine ⟨⟨xs, v, q, g1⟩, fun x H' ⟨T, x1, z1, z2, z3, z4⟩ => .inr ⟨T, _, z2, z3, ?_⟩⟩
  have z4 := z4 xs q
  rw [g1] at z4
  cases z4
  subst z1 e2
  exact dp_pair s2 z2 (.int _) (g2.sub s1)
end
section
variable {X : Cx} {pa : List Addr} {C : Ctx} {x y z tg : Expr} {a b c : E} {pos : Pos}
theorem i_seq (h : PE X x (tE X.K pa (evE C a))) : PI X tg x (tI X.K pa (evI C (.seq a))) := ⟨fun pn s σ H R I ⟨F, ρ, ds, ρ', Rr, e, k⟩ => by
  simp only [evI] at e
  obtain ⟨p, e1, e⟩ := Option.bind_eq_some_iff.mp e
  obtain ⟨q, e2, e⟩ := Option.bind_eq_some_iff.mp e
  obtain ⟨zs, e3, e⟩ := Option.map_eq_some_iff.mp e
  cases e
  obtain ⟨d, ρ2⟩ := q
  cases d with
  | list l =>
    cases e3
    refine (pi_len (pi_list h)).run pn s σ H R I ⟨F, ρ, p.1, p.2, Rr, e1, fun v1 F1 H1 R1 s1 w1 => ?_⟩
    obtain ⟨F2, R2, w2, s2, _⟩ := w1.frz R1 Rr s1 e2
    cases w2 with
    | lst h1 h2 =>
      have q : SqL X.K H1 _ _ := .inl (.inl (R2.sub _ _ h1))
      exact ⟨_, rfl, ⟨_, q⟩, fun L => k _ F2 H1 R2 s2 (by rw [← h2.len]; exact L _ _ (.inl q)) (yl_list h1 h2)⟩
  | tuple l =>
    cases e3
    refine (pi_len (pi_tup h)).run pn s σ H R I ⟨F, ρ, p.1, p.2, Rr, e1, fun v1 F1 H1 R1 s1 w1 => ?_⟩
    obtain ⟨F2, R2, w2, s2, _⟩ := w1.frz R1 Rr s1 e2
    cases w2 with
    | tup h1 h2 =>
      have q : SqT X.K H1 _ _ := .inl (.inl (R2.sub _ _ h1))
      exact ⟨_, rfl, ⟨_, q⟩, fun L => k _ F2 H1 R2 s2 (by rw [← h2.len]; exact L _ _ (.inr q)) (yl_tup h1 h2)⟩
  | _ => cases e3⟩
theorem i_rng1 {p : Pos} (hg : Gl X "range") (hm : X.mg "range" = none) (hs : notStar x = true) (h : PE X x (tE X.K pa (evE C a))) : PI X tg (.Call (.Name "range" p) [x] [] pos) (tI X.K pa (evI C (.rng1 a))) :=
  ⟨fun pn s σ H R I ⟨F, ρ, ds, ρ', Rr, e, k⟩ => by
    simp only [evI] at e
    obtain ⟨p, e1, e⟩ := Option.bind_eq_some_iff.mp e
    obtain ⟨d, e2, e⟩ := Option.bind_eq_some_iff.mp e
    obtain ⟨n, e3, e⟩ := Option.bind_eq_some_iff.mp e
    split at e
    · rename_i hn
      cases e
      refine (pi_range1 hg hm (s_consR hs h (C := C) (es := .nil) s_nilR) (star_cons hs)).run pn s σ H R I ⟨F, ρ, [p.1], p.2, Rr, by simp only [evR]; rw [e1]; rfl, fun vs F1 H1 R1 s1 w1 => ?_⟩
      cases w1 with
      | cons w t =>
        cases t
        have cn := w.cn R1 e2
        cases d <;> simp only [intOf] at e3 <;> cases e3
        cases cn
        refine ⟨_, rfl, by omega, by omega, k _ F1 H1 R1 s1 ?_ ?_⟩
        · simp; omega
        · have := @yl_rng X.K F1 0 n.toNat
          simpa using this
    · cases e⟩
theorem i_rng2 {p : Pos} (hg : Gl X "range") (hm : X.mg "range" = none) (hs : notStar x = true) (hs2 : notStar y = true) (h : PE X x (tE X.K pa (evE C a))) (h2 : PE X y (tE X.K pa (evE C b))) : PI X tg (.Call (.Name "range" p) [x, y] [] pos) (tI X.K pa (evI C (.rng2 a b))) :=
  ⟨fun pn s σ H R I ⟨F, ρ, ds, ρ', Rr, e, k⟩ => by
    simp only [evI] at e
    obtain ⟨p, e1, e⟩ := Option.bind_eq_some_iff.mp e
    obtain ⟨p2, e1', e⟩ := Option.bind_eq_some_iff.mp e
    obtain ⟨d, e2, e⟩ := Option.bind_eq_some_iff.mp e
    obtain ⟨d2, e2', e⟩ := Option.bind_eq_some_iff.mp e
    obtain ⟨n, e3, e⟩ := Option.bind_eq_some_iff.mp e
    obtain ⟨n2, e3', e⟩ := Option.bind_eq_some_iff.mp e
    split at e
    · rename_i hn
      cases e
      refine (pi_range2 hg hm (s_consR hs h (C := C) (s_consR hs2 h2 (es := .nil) s_nilR)) (by rw [star_cons hs, star_cons hs2]; rfl) (star_cons hs2)).run pn s σ H R I ⟨F, ρ, [p.1, p2.1], p2.2, Rr, by simp only [evR]; rw [e1]; simp only [Option.bind_some]; rw [e1']; rfl, fun vs F1 H1 R1 s1 w1 => ?_⟩
      cases w1 with
      | cons w t =>
        cases t with
        | cons w' t =>
          cases t
          have cn := w.cn R1 e2
          have cn' := w'.cn R1 e2'
          cases d <;> simp only [intOf] at e3 <;> cases e3
          cases d2 <;> simp only [intOf] at e3' <;> cases e3'
          cases cn
          cases cn'
          refine ⟨_, _, rfl, ⟨by omega, by omega, by omega, by omega⟩, k _ F1 H1 R1 s1 ?_ yl_rng⟩
          simp; omega
    · cases e⟩
theorem i_zip {elts : List Expr} {kk : Nat} {p tpos : Pos} (hg : Gl X "zip") (hm : X.mg "zip" = none) (hs : notStar x = true) (hs2 : notStar y = true) (h : PE X x (tE X.K pa (evE C a))) (h2 : PE X y (tE X.K pa (evE C b))) :
    PI X (.Tuple elts kk tpos) (.Call (.Name "zip" p) [x, y] [] pos) (tI X.K pa (evI C (.zip a b))) :=
  ⟨fun pn s σ H R I ⟨F, ρ, ds, ρ', Rr, e, k⟩ => by
    simp only [evI] at e
    obtain ⟨p, e1, e⟩ := Option.bind_eq_some_iff.mp e
    obtain ⟨p', e2, e⟩ := Option.bind_eq_some_iff.mp e
    obtain ⟨q, e1', e⟩ := Option.bind_eq_some_iff.mp e
    obtain ⟨q', e2', e⟩ := Option.bind_eq_some_iff.mp e
    obtain ⟨zs, e3, e⟩ := Option.map_eq_some_iff.mp e
    cases e
    refine (pi_len (RZ.pi_zipA hg hm (s_cons hs h (C := C) (s_cons hs2 h2 (es := .nil) s_nil)) (star_cons hs) (star_none (by simp [hs2])))).run pn s σ H R I ⟨F, ρ, [p'.1, q'.1], q'.2, Rr, by simp only [evL]; rw [e1]; simp only [Option.bind_some]; rw [e2]; simp only [Option.bind_some]; rw [e1']; simp only [Option.bind_some]; rw [e2']; rfl, fun vs F1 H1 R1 s1 w1 => ?_⟩
    cases w1 with
    | cons w t =>
      cases t with
      | cons w' t =>
        cases t
        obtain ⟨d, ρ1⟩ := p'
        obtain ⟨d2, ρ2⟩ := q'
        unfold zipEv at e3
        split at e3
        · rename_i g1 g2
          simp only at g1 g2
          subst g1 g2
          cases e3
          cases w with
          | lst h1 t1 =>
            cases w' with
            | lst h2 t2 =>
              have q1 : SqL X.K H1 _ _ := .inl (.inl (R1.sub _ _ h1))
              have q2 : SqL X.K H1 _ _ := .inl (.inl (R1.sub _ _ h2))
              exact ⟨_, _, _, _, rfl, .inl ⟨q1, q2, fun L => k _ F1 H1 R1 s1 (by have := L _ _ (.inl q1); rw [t1.len] at this; rw [List.length_zipWith]; omega) (yl_zip h1 t1 h2 t2)⟩⟩
        · rename_i g1 g2
          simp only at g1 g2
          subst g1 g2
          cases e3
          cases w with
          | tup h1 t1 =>
            cases w' with
            | tup h2 t2 =>
              have q1 : SqT X.K H1 _ _ := .inl (.inl (R1.sub _ _ h1))
              have q2 : SqT X.K H1 _ _ := .inl (.inl (R1.sub _ _ h2))
              exact ⟨_, _, _, _, rfl, .inr ⟨q1, q2, fun L => k _ F1 H1 R1 s1 (by have := L _ _ (.inr q1); rw [t1.len] at this; rw [List.length_zipWith]; omega) (yl_zipT h1 t1 h2 t2)⟩⟩
        · cases e3⟩
theorem i_enm {elts : List Expr} {kk : Nat} {p tpos : Pos} (hg : Gl X "enumerate") (hm : X.mg "enumerate" = none) (hs : notStar x = true) (h : PE X x (tE X.K pa (evE C a))) :
    PI X (.Tuple elts kk tpos) (.Call (.Name "enumerate" p) [x] [] pos) (tI X.K pa (evI C (.enm a))) :=
  ⟨fun pn s σ H R I ⟨F, ρ, ds, ρ', Rr, e, k⟩ => by
    simp only [evI] at e
    obtain ⟨p, e1, e⟩ := Option.bind_eq_some_iff.mp e
    obtain ⟨p', e2, e⟩ := Option.bind_eq_some_iff.mp e
    obtain ⟨zs, e3, e⟩ := Option.map_eq_some_iff.mp e
    cases e
    refine (pi_len (pi_enum hg hm (s_cons hs h (C := C) (es := .nil) s_nil) (star_cons hs))).run pn s σ H R I ⟨F, ρ, [p'.1], p'.2, Rr, by simp only [evL]; rw [e1]; simp only [Option.bind_some]; rw [e2]; rfl, fun vs F1 H1 R1 s1 w1 => ?_⟩
    cases w1 with
    | cons w t =>
      cases t
      obtain ⟨d, ρ1⟩ := p'
      cases d <;> simp only [enmEv] at e3 <;> cases e3
      cases w with
      | lst h1 t1 =>
        have q1 : SqL X.K H1 _ _ := .inl (.inl (R1.sub _ _ h1))
        exact ⟨_, _, rfl, q1, fun L => k _ F1 H1 R1 s1 (by have := L _ _ (.inl q1); rw [t1.len] at this; simpa using this) (yl_enm h1 t1)⟩⟩
/-- list(range(..)) -/
theorem s_lrng1 {p p2 pos2 : Pos} (hc : X.calm = true) (hg : Gl X "list") (hm : X.mg "list" = none) (hg2 : Gl X "range") (hm2 : X.mg "range" = none) (hs : notStar x = true) (h : PE X x (tE X.K pa (evE C a))) :
    PE X (.Call (.Name "list" p) [.Call (.Name "range" p2) [x] [] pos2] [] pos) (tE X.K pa (evE C (.lrng (.rng1 a)))) :=
  pe_imp (pe_listRg hc hg hm (prg_1 hg2 hm2 h (star_cons hs)) rfl) fun σ H Q ⟨F, ρ, r, ρ', Rr, e, k⟩ => by
    simp only [evE, evI] at e
    obtain ⟨w, e0, e⟩ := Option.map_eq_some_iff.mp e
    cases e
    obtain ⟨p, e1, e0⟩ := Option.bind_eq_some_iff.mp e0
    obtain ⟨d, e2, e0⟩ := Option.bind_eq_some_iff.mp e0
    obtain ⟨n, e3, e0⟩ := Option.bind_eq_some_iff.mp e0
    split at e0
    · rename_i hn
      cases e0
      refine ⟨F, ρ, p.1, p.2, Rr, e1, fun v F1 H1 R1 s1 w1 => ?_⟩
      have cn := w1.cn R1 e2
      cases d <;> simp only [intOf] at e3 <;> cases e3
      cases cn
      refine ⟨n, rfl, ⟨by omega, by omega, by omega, by omega, by omega⟩, fun q nq => k _ F1 _ (R1.alloc nq) (s1.trans (.alloc nq)) ⟨q, rfl, Classical.byContradiction fun z => s1.stp.dom q z nq, R1.sub.none_of nq, .lst upd_same ?_⟩⟩
      unfold rgV
      rw [show (n - 0).toNat = n.toNat by simp]
      clear nq hn k e1 w1 R1 s1
      induction (List.range n.toNat) with
      | nil => exact .nil
      | cons m l ih => rw [List.map_cons, List.map_cons, show (0 : Int) + (m : Nat) = (m : Nat) by omega]; exact .cons (.int _) ih
    · cases e0
end
end PI

set_option Elab.async false
set_option linter.all false
set_option maxRecDepth 100000
set_option maxHeartbeats 4000000
/-! PIp: targets, comprehensions. -/
namespace PI
set_option autoImplicit false
open PySem PySem.Spec PySem.W L2
open PyProof.Rows hiding St

section
variable {K : PySem.W.Frag} {pa : List Addr} {ρ ρ' : Env} {σ σ' : St} {F H F' H' : Hp}
/-- a part of the slots, some of them with new data -/
theorem Rel.part (R : Rel K pa ρ σ F H) (hl : ρ'.length = σ'.length) (h : ∀ (j : Nat) (s : Sl), ρ'[j]? = some s → s = .un ∨ (ρ[j]? = some s ∧ σ'[j]? = σ[j]?) ∨ ∃ d v, s = .sh d ∧ σ'[j]? = some (some v) ∧ DP K F v d) :
    Rel K pa ρ' σ' F H ∧ ∀ b, Own ρ' σ' b → Own ρ σ b := by
  have back : ∀ (j : Nat) (t : Option Nat) (d : D), ρ'[j]? = some (.ow t d) → ρ[j]? = some (.ow t d) ∧ σ'[j]? = σ[j]? := fun j t d e => by
    rcases h j _ e with z | z | ⟨_, _, z, _⟩
    · cases z
    · exact z
    · cases z
  refine ⟨⟨hl, R.sub, fun j d e => ?_, fun j t d e => ?_, fun i j t u d e a e1 e2 v1 v2 => ?_⟩, fun b ⟨j, t, d, e, v⟩ => ?_⟩
  · rcases h j _ e with z | ⟨z1, z2⟩ | ⟨d', v, z, z2, z3⟩
    · cases z
    · rw [z2]; exact R.sh j d z1
    · cases z; exact ⟨v, z2, z3⟩
  · obtain ⟨z1, z2⟩ := back j t d e
    rw [z2]; exact R.ow j t d z1
  · obtain ⟨z1, z2⟩ := back i t d e1
    obtain ⟨z3, z4⟩ := back j u e e2
    rw [z2] at v1
    rw [z4] at v2
    exact R.inj i j t u d e a z1 z3 v1 v2
  · obtain ⟨z1, z2⟩ := back j t d e
    rw [z2] at v
    exact ⟨j, t, d, z1, v⟩
theorem Rel.put (R : Rel K pa ρ σ F H) (i : Nat) {v : V} {d : D} (h : DP K F v d) : Rel K pa (ρ.set i (.sh d)) (σ.set i (some v)) F H ∧ ∀ b, Own (ρ.set i (.sh d)) (σ.set i (some v)) b → Own ρ σ b :=
  R.part (by simpa using R.len) fun j s e => by
    by_cases hj : j = i
    · subst hj
      have hi : j < ρ.length := by have := (List.getElem?_eq_some_iff.mp e).1; simpa using this
      rw [getE_set_self hi] at e
      cases e
      exact .inr (.inr ⟨d, v, rfl, by have := R.len; simp [show j < σ.length by omega], h⟩)
    · rw [List.getElem?_set_ne (Ne.symm hj)] at e
      exact .inr (.inl ⟨e, by rw [List.getElem?_set_ne (Ne.symm hj)]⟩)
def setV : List Nat → List V → St → St
  | i :: is, v :: vs, σ => setV is vs (σ.set i (some v))
  | _, _, σ => σ
theorem Rel.puts : ∀ {is : List Nat} {vs : List V} {ds : List D} {ρ ρ' : Env} {σ : St}, Rel K pa ρ σ F H → DPs K F vs ds → setAll is ds ρ = some ρ' →
    Rel K pa ρ' (setV is vs σ) F H ∧ (∀ b, Own ρ' (setV is vs σ) b → Own ρ σ b) ∧ (∀ j : Nat, j ∉ is → ρ'[j]? = ρ[j]? ∧ (setV is vs σ)[j]? = σ[j]?) ∧ (setV is vs σ).length = σ.length ∧ vs.length = is.length
  | [], _, _, ρ, ρ', σ, R, .nil, e => by cases e; exact ⟨R, fun _ h => h, fun _ _ => ⟨rfl, rfl⟩, rfl, rfl⟩
  | [], _, _, ρ, ρ', σ, R, .cons _ _, e => by cases e
  | _ :: _, _, _, ρ, ρ', σ, R, .nil, e => by cases e
  | i :: is, _, _, ρ, ρ', σ, R, .cons h t, e => by
    obtain ⟨R1, o1⟩ := R.put i h
    obtain ⟨R2, o2, g, l, n⟩ := Rel.puts R1 t e
    refine ⟨R2, fun b q => o1 b (o2 b q), fun j hj => ?_, by rw [setV, l]; simp, by simp [n]⟩
    simp only [List.mem_cons, not_or] at hj
    obtain ⟨g1, g2⟩ := g j hj.2
    rw [setV, g1, g2, List.getElem?_set_ne (Ne.symm hj.1), List.getElem?_set_ne (Ne.symm hj.1)]
    exact ⟨rfl, rfl⟩
theorem wipeE_len : ∀ is : List Nat, (wipeE ρ is).length = ρ.length
  | [] => rfl
  | i :: is => by rw [wipeE, List.length_set]; exact wipeE_len is
theorem wipeE_out {j : Nat} : ∀ {is : List Nat}, j ∉ is → (wipeE ρ is)[j]? = ρ[j]?
  | [], _ => rfl
  | i :: is, h => by
    simp only [List.mem_cons, not_or] at h
    rw [wipeE, List.getElem?_set_ne (Ne.symm h.1)]
    exact wipeE_out h.2
theorem wipeE_in {j : Nat} {s : Sl} : ∀ {is : List Nat}, j ∈ is → (wipeE ρ is)[j]? = some s → s = .un
  | [], h, _ => by cases h
  | i :: is, h, e => by
    rw [wipeE] at e
    by_cases hj : j = i
    · subst hj
      have hi : j < (wipeE ρ is).length := by have := (List.getElem?_eq_some_iff.mp e).1; simpa using this
      rw [getE_set_self hi] at e
      cases e
      rfl
    · rw [List.getElem?_set_ne (Ne.symm hj)] at e
      exact wipeE_in ((List.mem_cons.mp h).resolve_left hj) e
theorem backE_len {ρ0 : Env} : ∀ is : List Nat, (backE ρ0 ρ is).length = ρ.length
  | [] => rfl
  | i :: is => by rw [backE, List.length_set]; exact backE_len is
theorem backE_out {ρ0 : Env} {j : Nat} : ∀ {is : List Nat}, j ∉ is → (backE ρ0 ρ is)[j]? = ρ[j]?
  | [], _ => rfl
  | i :: is, h => by
    simp only [List.mem_cons, not_or] at h
    rw [backE, List.getElem?_set_ne (Ne.symm h.1)]
    exact backE_out h.2
theorem backE_in {ρ0 : Env} {j : Nat} {s : Sl} : ∀ {is : List Nat}, j ∈ is → (backE ρ0 ρ is)[j]? = some s → s = ρ0.at j
  | [], h, _ => by cases h
  | i :: is, h, e => by
    rw [backE] at e
    by_cases hj : j = i
    · subst hj
      have hi : j < (backE ρ0 ρ is).length := by have := (List.getElem?_eq_some_iff.mp e).1; simpa using this
      rw [getE_set_self hi] at e
      cases e
      rfl
    · rw [List.getElem?_set_ne (Ne.symm hj)] at e
      exact backE_in ((List.mem_cons.mp h).resolve_left hj) e
theorem wipe_in {j : Nat} : ∀ {is : List Nat}, j ∈ is → j < σ.length → (wipe σ is)[j]? = some none
  | [], h, _ => by cases h
  | i :: is, h, hl => by
    unfold wipe
    by_cases hj : j = i
    · subst hj
      simp [wipe_length, hl]
    · rw [List.getElem?_set_ne (Ne.symm hj)]
      exact wipe_in ((List.mem_cons.mp h).resolve_left hj) hl
theorem wipe_eq {is : List Nat} (hl : σ'.length = σ.length) (h : ∀ j : Nat, j ∉ is → σ'[j]? = σ[j]?) : wipe σ' is = wipe σ is := by
  refine List.ext_getElem? fun j => ?_
  by_cases hj : j ∈ is
  · by_cases hlt : j < σ.length
    · rw [wipe_in hj hlt, wipe_in hj (by omega)]
    · rw [List.getElem?_eq_none (by rw [wipe_length]; omega), List.getElem?_eq_none (by rw [wipe_length]; omega)]
  · rw [wipe_out hj, wipe_out hj, h j hj]
theorem Rel.wiped (R : Rel K pa ρ σ F H) (is : List Nat) {σ' : St} (hl : σ'.length = σ.length) (h : ∀ j : Nat, j ∉ is → σ'[j]? = σ[j]?) : Rel K pa (wipeE ρ is) σ' F H ∧ ∀ b, Own (wipeE ρ is) σ' b → Own ρ σ b :=
  R.part (by rw [wipeE_len, hl]; exact R.len) fun j s e => by
    by_cases hj : j ∈ is
    · exact .inl (wipeE_in hj e)
    · rw [wipeE_out hj] at e
      exact .inr (.inl ⟨e, h j hj⟩)
theorem ES.into {O O1 O2 O3 : Addr → Prop} {F F1 F2 H H1 H2 : Hp} (a : ES O F H O1 F1 H1) (b : ES O2 F1 H1 O3 F2 H2) (h : ∀ c, O2 c → O1 c) : ES O F H O3 F2 H2 :=
  ⟨a.stp.trans (b.stp.more h), fun c q => a.less c (h c (b.less c q))⟩
theorem ES.atD {O O1 : Addr → Prop} {F F1 H H1 : Hp} {Dd : Addr} {o : HO} (a : ES O F H O1 F1 H1) (n : H Dd = none) : ES O F H O1 F1 (upd H1 Dd o) :=
  ⟨⟨a.stp.mono, fun b u e q => by rw [upd_ne (ne_of_none e n)]; exact a.stp.keep b u e q, a.stp.newF, a.stp.newO, fun b q => by
    by_cases z : b = Dd
    · subst z; rw [upd_same]; exact nofun
    · rw [upd_ne z]; exact a.stp.dom b q⟩, a.less⟩
/-- an object that no slot owns, and no one freezes, stays -/
theorem ES.stays {O O1 : Addr → Prop} {F F1 H H1 : Hp} {Dd : Addr} {o : HO} (a : ES O F H O1 F1 H1) (n : ¬ O Dd) (e : H Dd = some o) (f : F Dd = none) (ht : ∀ ys, o ≠ .tup ys) : H1 Dd = some o ∧ F1 Dd = none ∧ ¬ O1 Dd := by
  refine ⟨a.stp.keep Dd o e n, ?_, fun q => n (a.less Dd q)⟩
  cases q : F1 Dd with
  | none => rfl
  | some u =>
    rcases a.stp.newF Dd (by rw [q]; exact nofun) with z | z | z | ⟨ys, z⟩
    · exact absurd f z
    · rw [e] at z; cases z
    · exact absurd z n
    · rw [e] at z; cases z; exact absurd rfl (ht ys)
theorem Rel.atD (R : Rel K pa ρ σ F H) {Dd : Addr} {o : HO} (n : ¬ Own ρ σ Dd) (f : F Dd = none) : Rel K pa ρ σ F (upd H Dd o) :=
  R.goes Sub.rfl' (fun b u e => by
    have : b ≠ Dd := fun z => by subst z; rw [f] at e; cases e
    rw [upd_ne this]; exact R.sub b u e) (fun b u q e => by
    have : b ≠ Dd := fun z => by subst z; exact n q
    rw [upd_ne this]; exact e) fun b q => R.unF q
/-- the slots that were put aside come back -/
theorem Rel.backs {ρ0 ρi : Env} {F0 H0 : Hp} {is : List Nat} (R0 : Rel K pa ρ0 σ F0 H0) (Ri : Rel K pa ρi (wipe σ is) F H) (s : ES (Own (wipeE ρ0 is) (wipe σ is)) F0 H0 (Own ρi (wipe σ is)) F H) (hl : ρi.length = ρ0.length) :
    Rel K pa (backE ρ0 ρi is) σ F H ∧ ES (Own ρ0 σ) F0 H0 (Own (backE ρ0 ρi is) σ) F H := by
  obtain ⟨Rw, ow⟩ := R0.wiped is (σ' := wipe σ is) (wipe_length σ is) fun j hj => wipe_out hj
  -- what was put aside is no one's in between
  have apart : ∀ (j : Nat) (t : Option Nat) (d : D) (a : Addr), j ∈ is → ρ0[j]? = some (.ow t d) → σ[j]? = some (some (.ref a)) → ¬ Own (wipeE ρ0 is) (wipe σ is) a := fun j t d a hj e1 e2 ⟨k, u, x, z1, z2⟩ => by
    have hk : k ∉ is := fun q => by have := wipeE_in q z1; cases this
    rw [wipeE_out hk] at z1
    rw [wipe_out hk] at z2
    have := R0.inj j k t u d x a e1 z1 e2 z2
    exact hk (this ▸ hj)
  have cases' : ∀ (j : Nat) (q : Sl), (backE ρ0 ρi is)[j]? = some q → q ≠ .un → (j ∈ is ∧ ρ0[j]? = some q) ∨ (j ∉ is ∧ ρi[j]? = some q ∧ (wipe σ is)[j]? = σ[j]?) := fun j q e hq => by
    by_cases hj : j ∈ is
    · exact .inl ⟨hj, at_some (backE_in hj e).symm hq⟩
    · rw [backE_out hj] at e
      exact .inr ⟨hj, e, wipe_out hj⟩
  have kept : ∀ (j : Nat) (t : Option Nat) (d : D), j ∈ is → ρ0[j]? = some (.ow t d) → ∃ a, σ[j]? = some (some (.ref a)) ∧ F a = none ∧ Top K F H a d ∧ ∀ k, t = some k → pa[k]? = some a := fun j t d hj e => by
    obtain ⟨a, h1, h2, h3, h4⟩ := R0.ow j t d e
    have na := apart j t d a hj e h1
    refine ⟨a, h1, ?_, h3.keep s.stp.mono fun o q => s.stp.keep a o q na, h4⟩
    cases q : F a with
    | none => rfl
    | some u =>
      rcases s.stp.newF a (by rw [q]; exact nofun) with z | z | z | ⟨ys, z⟩
      · exact absurd h2 z
      · exact absurd z h3.there
      · exact absurd z na
      · exact absurd z (h3.notTup ys)
  have own : ∀ b, Own (backE ρ0 ρi is) σ b → Own ρ0 σ b := fun b ⟨j, t, d, e1, e2⟩ => by
    rcases cases' j _ e1 nofun with ⟨hj, z⟩ | ⟨hj, z, z2⟩
    · exact ⟨j, t, d, z, e2⟩
    · exact ow b (s.less b ⟨j, t, d, z, by rw [z2]; exact e2⟩)
  refine ⟨⟨by rw [backE_len, hl]; exact R0.len, Ri.sub, fun j d e => ?_, fun j t d e => ?_, fun i j t u d e a e1 e2 v1 v2 => ?_⟩, ⟨⟨s.stp.mono, fun b o e n => s.stp.keep b o e fun q => n (ow b q), fun b q => (s.stp.newF b q).imp id (Or.imp id (Or.imp (ow b) id)), fun b q => .inl (own b q), s.stp.dom⟩, own⟩⟩
  · rcases cases' j _ e nofun with ⟨hj, z⟩ | ⟨hj, z, z2⟩
    · obtain ⟨v, g1, g2⟩ := R0.sh j d z
      exact ⟨v, g1, g2.sub s.stp.mono⟩
    · rw [← z2]; exact Ri.sh j d z
  · rcases cases' j _ e nofun with ⟨hj, z⟩ | ⟨hj, z, z2⟩
    · exact kept j t d hj z
    · rw [← z2]; exact Ri.ow j t d z
  · rcases cases' i _ e1 nofun with ⟨hi, z⟩ | ⟨hi, z, z2⟩ <;> rcases cases' j _ e2 nofun with ⟨hj, w⟩ | ⟨hj, w, w2⟩
    · exact R0.inj i j t u d e a z w v1 v2
    · exact absurd (s.less a ⟨j, u, e, w, by rw [w2]; exact v2⟩) (apart i t d a hi z v1)
    · exact absurd (s.less a ⟨i, t, d, z, by rw [z2]; exact v1⟩) (apart j u e a hj w v2)
    · exact Ri.inj i j t u d e a z w (by rw [z2]; exact v1) (by rw [w2]; exact v2)
end

/-! targets -/
def tG (K : PySem.W.Frag) (pa : List Addr) (tg : Tg) : TG := fun v σ H Q => ∃ F ρ d ρ', Rel K pa ρ σ F H ∧ DP K F v d ∧ bindT tg d ρ = some ρ' ∧
  ∀ σ', Rel K pa ρ' σ' F H → (∀ b, Own ρ' σ' b → Own ρ σ b) → (∀ j : Nat, j ∉ tg.slots → ρ'[j]? = ρ[j]? ∧ σ'[j]? = σ[j]?) → σ'.length = σ.length → Q σ' H
section
variable {X : Cx} {pa : List Addr} {C : Ctx} {pos : Pos}
theorem g_nm {i : Nat} {x : Str} (hN : X.N.Nodup) (hi : X.N[i]? = some x) (hx : Loc X.env.scope x) (hf : X.fn x = true ∨ X.env.scope.names.lookup x = some .local) : PG X (.Name x pos) (tG X.K pa (.nm i)) :=
  ⟨fun pn s σ H v u Q I r ⟨F, ρ, d, ρ', R, h, e, k⟩ => (pg_name hN hi hx hf).run pn s σ H v u Q I r (by
    cases e
    obtain ⟨R1, o1⟩ := R.put i h
    refine k _ R1 o1 (fun j hj => ?_) (by simp)
    simp only [Tg.slots, List.mem_singleton] at hj
    exact ⟨List.getElem?_set_ne (Ne.symm hj), List.getElem?_set_ne (Ne.symm hj)⟩)⟩
/-- names of slots -/
def NmOk (X : Cx) (i : Nat) (x : Str) : Prop := X.N[i]? = some x ∧ Loc X.env.scope x ∧ (X.fn x = true ∨ X.env.scope.names.lookup x = some .local)
def IsNms (X : Cx) : List Nat → List Expr → Prop
  | [], [] => True
  | i :: is, .Name x _ :: es => NmOk X i x ∧ IsNms X is es
  | _, _ => False
def gVs (is : List Nat) : TGs := fun vs σ H Q => vs.length = is.length ∧ Q (setV is vs σ) H
theorem nms_cases {is : List Nat} {es : List Expr} (h : IsNms X is es) : (is = [] ∧ es = []) ∨ ∃ i js x p fs, is = i :: js ∧ es = .Name x p :: fs ∧ NmOk X i x ∧ IsNms X js fs := by
  cases is with
  | nil => cases es with
    | nil => exact .inl ⟨rfl, rfl⟩
    | cons e es => exact h.elim
  | cons i is => cases es with
    | nil => exact h.elim
    | cons e es => cases e with
      | Name x p => exact .inr ⟨i, is, x, p, es, rfl, rfl, h.1, h.2⟩
      | _ => exact h.elim
theorem pgs_nms (hN : X.N.Nodup) : ∀ {is : List Nat} {es : List Expr}, IsNms X is es → PGs X es (gVs is) := by
  intro is
  induction is with
  | nil =>
    intro es h
    rcases nms_cases h with ⟨_, rfl⟩ | ⟨_, _, _, _, _, z, _⟩
    · refine ⟨fun pn s σ H vs us Q I r ⟨h1, h2⟩ => pgs_nil.run pn s σ H vs us Q I r ⟨List.length_eq_zero_iff.mp h1, ?_⟩⟩
      cases vs with
      | nil => exact h2
      | cons _ _ => cases h1
    · cases z
  | cons i is ih =>
    intro es h
    rcases nms_cases h with ⟨z, _⟩ | ⟨j, js, x, p, fs, z, rfl, h1, h2⟩
    · cases z
    · cases z
      refine ⟨fun pn s σ H vs us Q I r ⟨h3, h4⟩ => (pgs_cons (pg_name hN h1.1 h1.2.1 h1.2.2) (ih h2) rfl).run pn s σ H vs us Q I r ?_⟩
      cases vs with
      | nil => cases h3
      | cons v vs => exact ⟨v, vs, rfl, by simpa using h3, h4⟩
theorem nms_len {env : PySem.Env} : ∀ {is : List Nat} {es : List Expr}, IsNms X is es → (assignEach es env).length = is.length ∧ (assignEach es env).findIdx? (·.1) = none := by
  intro is
  induction is with
  | nil =>
    intro es h
    rcases nms_cases h with ⟨_, rfl⟩ | ⟨_, _, _, _, _, z, _⟩
    · exact ⟨rfl, rfl⟩
    · cases z
  | cons i is ih =>
    intro es h
    rcases nms_cases h with ⟨z, _⟩ | ⟨j, js, x, p, fs, z, rfl, h1, h2⟩
    · cases z
    · cases z
      obtain ⟨a, b⟩ := ih h2
      refine ⟨?_, ?_⟩
      · show (assignEach fs env).length + 1 = _
        rw [a]; rfl
      · show List.findIdx? (·.1) ((false, _) :: assignEach fs env) = none
        rw [List.findIdx?_cons, b]
        rfl
theorem g_tp {is : List Nat} {es : List Expr} {kk : Nat} (hc : X.calm = true) (hN : X.N.Nodup) (h : IsNms X is es) : PG X (.Tuple es kk pos) (tG X.K pa (.tp is)) := by
  obtain ⟨n1, n2⟩ := nms_len (env := X.env) h
  refine ⟨fun pn s σ H v u Q I r ⟨F, ρ, d, ρ', R, hd, e, k⟩ => ?_⟩
  cases d with
  | tuple ds =>
    cases hd with
    | tup h1 h2 =>
      obtain ⟨R1, o1, g, l, n⟩ := R.puts h2 e
      exact (pg_tup hc (pgs_nms hN h) n1 n2).run pn s σ H _ u Q I r ⟨_, _, rfl, .inl (.inl (R.sub _ _ h1)), n, n, k _ R1 o1 g l⟩
  | list ds =>
    cases hd with
    | lst h1 h2 =>
      obtain ⟨R1, o1, g, l, n⟩ := R.puts h2 e
      exact (L2.pg_unl hc (pgs_nms hN h) n1 n2).run pn s σ H _ u Q I r ⟨_, _, rfl, .inl (.inl (R.sub _ _ h1)), n, n, k _ R1 o1 g l⟩
  | _ => cases e
end

/-! comprehensions -/
theorem evF_nil {C : Ctx} {ρ : Env} : evF C .nil ρ = some (true, ρ) := by simp only [evF]
theorem drop_cons {α : Type} {l : List α} {i : Nat} {x : α} (e : l[i]? = some x) : l.drop i = x :: l.drop (i + 1) := by
  obtain ⟨h, rfl⟩ := List.getElem?_eq_some_iff.mp e
  exact List.drop_eq_getElem_cons h
/-- the turns of a block: how one begins -/
theorem blk_turn {K : PySem.W.Frag} {pa : List Addr} {ρw ρi : Env} {σw : St} {F1 H1 Fi H H' : Hp} {x : V} {d : D} (Ri : Rel K pa ρi σw Fi H) (y : (H' = H ∧ DP K Fi x d) ∨ ∃ p o, H p = none ∧ H' = upd H p o ∧ DP K (upd Fi p o) x d) :
    ∃ F', Rel K pa ρi σw F' H' ∧ DP K F' x d ∧ ES (Own ρi σw) Fi H (Own ρi σw) F' H' := by
  rcases y with ⟨rfl, h⟩ | ⟨p, o, n, rfl, h⟩
  · exact ⟨Fi, Ri, h, .rfl'⟩
  · exact ⟨_, Ri.allocF n, h, .allocF Ri.sub n⟩
section
variable {K : PySem.W.Frag} {pa : List Addr} {C : Ctx}
theorem lc_reading {elt : E} {tg : Tg} {it : It} {ifs : Es} {σ : St} {H : Hp} {Q : VK} (h : tE K pa (evE C (.comp elt tg it ifs)) σ H Q) : tLc (tI K pa (evI C it)) (tG K pa tg) (tT K pa (evF C ifs)) (tE K pa (evE C elt)) tg.slots σ H Q := by
  obtain ⟨F, ρ, r, ρ', R, e, k⟩ := h
  simp only [evE] at e
  obtain ⟨p, e1, e⟩ := Option.bind_eq_some_iff.mp e
  obtain ⟨q, e2, e⟩ := Option.map_eq_some_iff.mp e
  rw [Prod.mk.injEq] at e
  obtain ⟨rfl, rfl⟩ := e
  refine ⟨F, ρ, p.1, p.2, R, e1, fun J F1 H1 R1 s1 hlen hY Dd hD => ?_⟩
  obtain ⟨Rw, ow⟩ := R1.wiped tg.slots (σ' := wipe σ tg.slots) (wipe_length σ _) fun j hj => wipe_out hj
  have hz : sizeLine = 16777216 := sizeLine_eq
  generalize hf : (fun x ρ => (bindT tg x ρ).bind fun ρ1 => (evF C ifs ρ1).bind fun t => if t.1 = true then (evE C elt t.2).bind fun r => (frz r.2 r.1).map fun z => (some z.1, wipeE z.2 tg.slots)
        else some (none, wipeE t.2 tg.slots)) = f at e2
  refine ⟨fun i m H => m + i = p.1.length ∧ ∃ ρi Fi acc accd out, Rel K pa ρi (wipe σ tg.slots) Fi H ∧ ES (Own (wipeE p.2 tg.slots) (wipe σ tg.slots)) F1 H1 (Own ρi (wipe σ tg.slots)) Fi H ∧
      H Dd = some (.lst acc) ∧ Fi Dd = none ∧ DPs K Fi acc accd ∧ acc.length ≤ i ∧ ρi.length = p.2.length ∧ compGo f (p.1.drop i) ρi = some (out, q.2) ∧ accd ++ out = q.1,
    ⟨p.1.length, rfl, wipeE p.2 tg.slots, F1, [], [], q.1, Rw.alloc hD, .alloc hD, upd_same, R1.sub.none_of hD, .nil, Nat.le_refl _, wipeE_len _, e2, rfl⟩, ?_⟩
  rintro i m H2 ⟨hm, ρi, Fi, acc, accd, out, Ri, si, hDi, fDi, ai, li, gi, ei, oi⟩
  have nD : ¬ Own ρi (wipe σ tg.slots) Dd := fun z => Rw.there (si.less Dd z) hD
  obtain ⟨y1, y2⟩ := hY i Fi H2 si.stp.mono Ri.sub
  by_cases hi : i < p.1.length
  · refine .inr ?_
    obtain ⟨d, ed⟩ : ∃ d, p.1[i]? = some d := ⟨p.1[i], by simp [hi]⟩
    obtain ⟨g1, g2⟩ := y1 d ed
    rw [drop_cons ed] at ei
    simp only [compGo] at ei
    obtain ⟨t, et, ei⟩ := Option.bind_eq_some_iff.mp ei
    obtain ⟨u, eu, ei⟩ := Option.bind_eq_some_iff.mp ei
    rw [← hf] at et
    obtain ⟨ρ1, eb, et⟩ := Option.bind_eq_some_iff.mp et
    obtain ⟨c, ec, et⟩ := Option.bind_eq_some_iff.mp et
    refine ⟨g1, _, fun H' z => z, fun x H' yx => ?_⟩
    obtain ⟨F', R', dx, s'⟩ := blk_turn (ρw := ρi) (F1 := F1) (H1 := H1) Ri (g2 x H' yx)
    obtain ⟨hD', fD', nD'⟩ := s'.stays nD hDi fDi nofun
    refine ⟨F', ρi, d, ρ1, R', dx, eb, fun σ2 R2 o2 eq2 len2 => ⟨wipe_eq len2 (fun j hj => (eq2 j hj).2) ▸ ?_, F', ρ1, c.1, c.2, R2, ec, fun F3 H3 R3 s3 => ?_⟩⟩
    · have : wipe (wipe σ tg.slots) tg.slots = wipe σ tg.slots := wipe_eq (wipe_length _ _) fun j hj => wipe_out hj
      exact this
    have s3' := (si.trans s').into s3 o2
    obtain ⟨hD3, fD3, nD3⟩ := s3.stays (fun z => nD' (o2 _ z)) hD' fD' nofun
    have agree : ∀ j : Nat, j ∉ tg.slots → (wipe σ tg.slots)[j]? = σ2[j]? := fun j hj => (eq2 j hj).2.symm
    have lens : (wipe σ tg.slots).length = σ2.length := len2.symm
    cases hc : c.1 with
    | false =>
      rw [hc] at et
      simp only [Bool.false_eq_true, if_false] at et ⊢
      cases et
      obtain ⟨R4, o4⟩ := R3.wiped tg.slots lens agree
      obtain rfl : out = u.1 := by
        simp only [Option.some.injEq, Prod.mk.injEq] at ei
        exact ei.1.symm
      have ei2 : u.2 = q.2 := by
        simp only [Option.some.injEq, Prod.mk.injEq] at ei
        exact ei.2
      refine ⟨m - 1, by omega, by omega, wipeE c.2 tg.slots, F3, acc, accd, u.1, R4, ⟨s3'.stp.less o4, fun b z => s3'.less b (o4 b z)⟩, hD3, fD3, ai.sub (s'.stp.mono.trans s3.stp.mono), by omega, ?_, by rw [← ei2]; exact eu, oi⟩
      rw [wipeE_len, ← gi]
      have := R3.len
      have := Ri.len
      omega
    | true =>
      rw [hc] at et
      simp only [if_true] at et ⊢
      obtain ⟨w, ew, et⟩ := Option.bind_eq_some_iff.mp et
      obtain ⟨z, ez, et⟩ := Option.map_eq_some_iff.mp et
      cases et
      refine ⟨F3, c.2, w.1, w.2, R3, ew, fun v F4 H4 R4 s4 w4 => ?_⟩
      obtain ⟨F5, R5, dv, s5, m5⟩ := w4.frz R4 R3 s4 ez
      obtain ⟨hD5, fD5, nD5⟩ := s5.stays nD3 hD3 fD3 nofun
      obtain ⟨R6, o6⟩ := R5.wiped tg.slots lens agree
      have nD6 : ¬ Own (wipeE z.2 tg.slots) (wipe σ tg.slots) Dd := fun y => nD5 (o6 _ y)
      have ei1 : z.1 :: u.1 = out ∧ u.2 = q.2 := by
        simp only [Option.some.injEq, Prod.mk.injEq] at ei
        exact ei
      have sA := s3'.into s5 fun _ y => y
      refine ⟨acc, hD5, by omega, m - 1, by omega, by omega, wipeE z.2 tg.slots, F5, acc ++ [v], accd ++ [z.1], u.1, R6.atD nD6 fD5, ES.atD ⟨sA.stp.less o6, fun b y => sA.less b (o6 b y)⟩ hD, upd_same, fD5,
        (ai.sub ((s'.stp.mono.trans s3.stp.mono).trans s5.stp.mono)).app (.cons dv .nil), by simp; omega, ?_, by rw [← ei1.2]; exact eu, by rw [← oi, ← ei1.1]; simp⟩
      rw [wipeE_len, ← gi]
      have := R5.len
      have := Ri.len
      omega
  · have hi2 : i = p.1.length := by omega
    subst hi2
    rw [List.drop_length] at ei
    simp only [compGo] at ei
    cases ei
    rw [List.append_nil] at oi
    subst oi
    obtain ⟨Rb, sb⟩ := R1.backs Ri si gi
    refine .inl ⟨y2 (Nat.le_refl _), k _ Fi H2 Rb (s1.trans sb) ⟨Dd, rfl, Classical.byContradiction fun z => s1.stp.dom Dd z hD, fDi, .lst hDi ai⟩⟩
end
end PI

set_option Elab.async false
set_option linter.all false
set_option maxRecDepth 100000
set_option maxHeartbeats 4000000
/-! PIq: dict comprehensions with keys of any kind. -/
namespace PI
set_option autoImplicit false
open PySem PySem.Spec PySem.W L2
open PyProof.Rows hiding St

section
variable {X : Cx}
/-- {k: v for target in iter if ..}: D the new dict -/
def tDcA (K : PySem.W.Frag) (wi : TI) (g : TG) (tt : TT) (tk tv : TE) (vs : List Nat) : TE := fun σ H Q => wi σ H fun J H1 => ∀ D, H1 D = none → ∃ W : Nat → Nat → Hp → Prop, (∃ m, W 0 m (upd H1 D (.dK []))) ∧ ∀ i m H, W i m H →
  (J.stop i H ∧ Q (.ref D) H) ∨ (J.go i H ∧ ∃ Nx : Hp → Prop, (∀ H', Nx H' → ∃ m', m' < m ∧ W (i + 1) m' H') ∧ ∀ x H', J.yld i H x H' → g x (wipe σ vs) H' fun σ2 H2 => wipe σ2 vs = wipe σ vs ∧ tt σ2 H2 fun b H3 =>
    if b = true then tk σ2 H3 fun y H4 => tv σ2 H4 fun z H5 => ∃ F ds k e, Sub F H5 ∧ Top K F H5 D (.dict ds) ∧ DP K F y k ∧ DP K F z e ∧ keyOk ds k = true ∧ ds.length < LIM ∧
      ∀ o, Top K F (upd H5 D o) D (.dict (dput ds k e)) → Nx (upd H5 D o) else Nx H3)
theorem dcA_core {pins : List (Addr × Obj)} {s : Shared} {σ : St} {H : Hp} {Q : VK} {kx vx tg iter : Expr} {ifs : List Expr} {scope : Scope} {own : List (Str × Nat)} {pos pos' : Pos} {wi : TI} {g : TG} {tt : TT} {tk tv : TE} {use : Option (Value → Sem Unit)} {Qf : Value → Shared → Prop}
    (hu : X.A.units + 1 < cLine) (hc : X.calm = true) (hN : X.N.Nodup) (I : Inv X pins σ H s) (hi : PI X tg iter wi) (ok : BlkOk X.N X.env.scope scope own)
    (hg : ∀ (s : Shared) (H : Hp) (C : Addr) (cl : List (Str × Addr)) (fp : List Addr), PG (X.blk s H scope (compEnvC scope cl C X.env) fp) tg g) (ht : ∀ (s : Shared) (H : Hp) (C : Addr) (cl : List (Str × Addr)) (fp : List Addr), PTs (X.blk s H scope (compEnvC scope cl C X.env) fp) ifs tt)
    (hk : ∀ (s : Shared) (H : Hp) (C : Addr) (cl : List (Str × Addr)) (fp : List Addr), PE (X.blk s H scope (compEnvC scope cl C X.env) fp) kx tk)
    (he : ∀ (s : Shared) (H : Hp) (C : Addr) (cl : List (Str × Addr)) (fp : List Addr), PE (X.blk s H scope (compEnvC scope cl C X.env) fp) vx tv) (hs : ∀ x, foldedSetIterable iter X.env x = pure x)
    (h : tDcA X.K wi g tt tk tv (own.map (·.2)) σ H Q)
    (hRR : ∀ D C s' m H', Inv X pins σ H' s' → Q (.ref D) H' → s'.heap.Ns C m → FpOk X pins H' C → compPost (model X.prog X.w) X.A X.xe use Qf (.ref D) C (.ok .next) s') :
    wpAny (model X.prog X.w) X.A (comprehension (.DictComp kx vx [⟨tg, iter, ifs, 0⟩] scope pos) scope X.env pos' newDict false (eval iter X.env) use) Qf X.xe s := by
  have hfree : ∀ y ∈ scope.names, y.2 = .free → ∃ c, X.env.cells.lookup y.1 = some c := fun y hy e => by
    rcases ok.free y hy e with k | k
    · exact I.ok.has _ (.inl k)
    · exact I.ok.has _ (.inr k)
  refine wpAny_comprehension_free (use := use) rfl hs (closure_ok hfree) ok.kind (fun y hy e => by rw [ok.uniq y hy, e])
    (thn (hi.run pins s σ H _ I h) fun xv s1 hx => thn hx fun itv s2 h2 => ?_)
  obtain ⟨it, fp, tn, J, H2, e, I2, T, st2, f2, q⟩ := h2
  subst e
  refine wpAny_newObj_type (newEnv_comp ?_)
  generalize hD : s2.heap.objs.size = D
  have hDn : H2 D = none := I2.hok.fresh (Nat.le_of_eq hD)
  obtain ⟨W, ⟨m0, w0⟩, turn⟩ := q D hDn
  generalize hs3 : ({ s2 with heap := s2.heap.push { cls := .type "dict", data := .dict #[] } } : Shared) = s3
  have I3 : Inv X pins σ (upd H2 D (.dK [])) s3 := by
    rw [← hs3]
    refine I2.laid (t' := s2.toks) (fun b o e => Heap.get?_push_of_some _ e) (Nat.le_of_eq hD) ?_
    rw [← hD]
    exact dk_empty s2.heap I2.big
  have h3 : s3.heap = s2.heap.push { cls := .type "dict", data := .dict #[] } := by rw [← hs3]
  have f3 : ∀ b ∈ fp, FpOk X pins (upd H2 D (.dK [])) b ∧ b < s3.heap.objs.size := fun b hb => by
    obtain ⟨o, eo, _⟩ := T.obj _ _ st2 b hb
    have hlt := Heap.lt_size eo
    refine ⟨⟨?_, (f2 b hb).2⟩, by rw [h3, Heap.size_push]; exact Nat.lt_succ_of_lt hlt⟩
    rw [upd_ne (by rw [← hD]; exact Nat.ne_of_lt hlt)]
    exact (f2 b hb).1
  have st3 : tn 0 s3.heap := T.keep _ _ _ st2 fun b _ o e => by rw [h3]; exact Heap.get?_push_of_some _ e
  have I4 := block_start I3 ok hN f3
  have pg := hg s3 (upd H2 D (.dK [])) s3.heap.objs.size (cellsFrom (s3.heap.objs.size + 1) scope.names (cloFrom X.env.cells scope.names [])) fp
  have pt := ht s3 (upd H2 D (.dK [])) s3.heap.objs.size (cellsFrom (s3.heap.objs.size + 1) scope.names (cloFrom X.env.cells scope.names [])) fp
  have pk := hk s3 (upd H2 D (.dK [])) s3.heap.objs.size (cellsFrom (s3.heap.objs.size + 1) scope.names (cloFrom X.env.cells scope.names [])) fp
  have pe := he s3 (upd H2 D (.dK [])) s3.heap.objs.size (cellsFrom (s3.heap.objs.size + 1) scope.names (cloFrom X.env.cells scope.names [])) fp
  show codeAny _ _ (.compStart (.DictComp kx vx [⟨tg, iter, ifs, 0⟩] scope pos) 0 (.ref it) (.ref D) (compEnvC scope (cellsFrom (s3.heap.objs.size + 1) scope.names (cloFrom X.env.cells scope.names [])) s3.heap.objs.size X.env)) (compPost (model X.prog X.w) X.A X.xe use Qf (.ref D) s3.heap.objs.size) { s3 with heap := pushCells (s3.heap.push { cls := .type "dict", data := .dict #[] }) scope.names }
  have nfp : ∀ b ∈ fp, (upd H2 D (.dK [])) b = none := fun b hb => (f3 b hb).1.1
  generalize hce : compEnvC scope (cellsFrom (s3.heap.objs.size + 1) scope.names (cloFrom X.env.cells scope.names [])) s3.heap.objs.size X.env = ce at I4 pg pt pk pe ⊢
  have cL : ce.locals = s3.heap.objs.size := by subst hce; rfl
  generalize hH3 : upd H2 D (.dK []) = H3 at I3 I4 pg pt pk pe w0 nfp f3
  generalize hs4 : ({ s3 with heap := pushCells (s3.heap.push { cls := .type "dict", data := .dict #[] }) scope.names } : Shared) = s4 at I4 ⊢
  have st4 : tn 0 s4.heap := T.keep _ _ _ st3 fun b _ o e => by rw [← hs4]; exact pushCells_keeps _ _ _ _ (Heap.get?_push_of_some _ e)
  have stat : ∀ {σ' : St} {H' : Hp} {s' : Shared}, Inv (X.blk s3 H3 scope ce fp) [] σ' H' s' → (∀ b ∈ fp, H' b = none) → ∀ b ∈ fp, FpOk (X.blk s3 H3 scope ce fp) [] H' b := fun {σ' H' s'} I' hn b hb =>
    ⟨hn b hb, (I'.ok.exf b hb).1, I'.ok.exfs b hb, .inl hb, fun x c e => (I'.ok.exf b hb).2 x c e, fun p hp => absurd (show p ∈ ([] : List (Addr × Obj)) ++ [] from hp) (by simp)⟩
  have loop : codeAny (model X.prog X.w) X.A (.compLoop (.DictComp kx vx [⟨tg, iter, ifs, 0⟩] scope pos) 0 (.ref it) (.ref D) ce) (compPost (model X.prog X.w) X.A X.xe use Qf (.ref D) s3.heap.objs.size) s4 := by
    refine compLoop_anyD (fun n s' => ∃ i H', Inv (X.blk s3 H3 scope ce fp) [] (wipe σ (own.map (·.2))) H' s' ∧ tn i s'.heap ∧ (∀ b ∈ fp, H' b = none) ∧ W i n H') ?_ m0 ⟨0, H3, I4, st4, nfp, w0⟩
    rintro n s5 ⟨i, H5, I5, st5, n5, w5⟩
    rcases turn i n H5 w5 with ⟨stop, qq⟩ | ⟨go, Nx, hNx, step⟩
    · refine thnF (T.done (X.blk s3 H3 scope ce fp) rfl rfl rfl hc i [] s5 _ H5 (fun _ _ => False) I5 (stat I5 n5) st5 stop) fun r s6 ⟨hr, I6⟩ => ?_
      subst hr
      have I7 : Inv X pins σ H5 s6 := I3.call' (ch := fp) I6.os I6.base I6.hok I6.bare fun b hb => ⟨(f3 b hb).1.2.2.2.1, (f3 b hb).1.2.1, (f3 b hb).1.2.2.2.2.1, (f3 b hb).1.2.2.2.2.2⟩
      have nC : H5 s3.heap.objs.size = none := cL ▸ (show H5 ce.locals = none from I6.free)
      obtain ⟨m, hn, _⟩ := I6.loc
      exact hRR D s3.heap.objs.size s6 m H5 I7 qq (cL ▸ (show s6.heap.Ns ce.locals m from hn)) (I3.fpOk (Nat.le_refl _) nC)
    · refine thnF (T.item (X.blk s3 H3 scope ce fp) rfl rfl rfl hc i [] s5 _ H5 (fun _ _ => False) I5 (stat I5 n5) st5 go) fun r s6 ⟨u, hr, h6⟩ => ?_
      subst hr
      refine thnF h6 fun _ s7 ⟨x, H7, I7, r7, y7, st7, n7⟩ => ?_
      refine thnF (pg.run _ s7 _ H7 x u _ (I7.pinned (stat I7 n7) (T.obj _ _ st7)) r7 (step x H7 y7)) fun _ s8 ⟨σ8, H8, I8, hw8, q8⟩ => ?_
      refine thnF (pt.run _ s8 σ8 H8 _ I8 q8) fun b s9 ⟨H9, I9, q9⟩ => ?_
      have fin : ∀ {s' : Shared} {H' : Hp}, Inv (X.blk s3 H3 scope ce fp) ([] ++ pinsAt fp s7.heap) σ8 H' s' → Nx H' → ∃ m, m < n ∧ ∃ i H', Inv (X.blk s3 H3 scope ce fp) [] (wipe σ (own.map (·.2))) H' s' ∧ tn i s'.heap ∧ (∀ b ∈ fp, H' b = none) ∧ W i m H' := fun {s' H'} I' nx => by
        obtain ⟨m', hm, w'⟩ := hNx H' nx
        have pin' : ∀ b ∈ fp, ∀ o, s7.heap.get? b = some o → s'.heap.get? b = some o ∧ H' b = none := fun b hb o e =>
          let z := I'.pin (b, o) (List.mem_append_right _ (List.mem_append_right _ (mem_pinsAt hb e)))
          ⟨z.1, z.2.1⟩
        have hl : (wipe σ (own.map (·.2))).length = σ8.length := by rw [← hw8, wipe_length]
        refine ⟨m', hm, i + 1, H', (I'.unpinned (pins := [])).weak hl (fun j v e => ?_), T.keep _ _ _ st7 fun b hb o e => (pin' b hb o e).1, fun b hb => ?_, w'⟩
        · rw [← hw8] at e
          exact (wipe_some e).1
        · obtain ⟨o, e, _⟩ := T.obj _ _ st7 b hb
          exact (pin' b hb o e).2
      cases b with
      | false =>
        simp only [Bool.false_eq_true, if_false] at q9 ⊢
        exact fin I9 q9
      | true =>
        simp only [if_true] at q9 ⊢
        refine thnF (pk.run _ s9 σ8 H9 _ I9 q9) fun z s10 ⟨yk, H10, I10, r10, q10⟩ => ?_
        refine thnF (pe.run _ s10 σ8 H10 _ I10 q10) fun z2 s11 ⟨yv, H11, I11, r11, F, ds, k, ev, sb, top, dk, dv, ok, lt, nx⟩ => ?_
        obtain ⟨o, top', w⟩ := dput_ok (X := X.blk s3 H3 scope ce fp) hu I11 sb top dk dv ok lt r10 r11
        exact (w _ _ fun s12 I12 => fin I12 (nx o top')).2
  exact codeAny_compStart_dict loop (T.self X.A 0 _ _ _ st4 loop)
theorem pe_dcA {kx vx tg iter : Expr} {ifs : List Expr} {scope : Scope} {own : List (Str × Nat)} {pos : Pos} {wi : TI} {g : TG} {tt : TT} {tk tv : TE} (hu : X.A.units + 1 < cLine) (hc : X.calm = true) (hN : X.N.Nodup) (hi : PI X tg iter wi) (ok : BlkOk X.N X.env.scope scope own)
    (hg : ∀ (s : Shared) (H : Hp) (C : Addr) (cl : List (Str × Addr)) (fp : List Addr), PG (X.blk s H scope (compEnvC scope cl C X.env) fp) tg g) (ht : ∀ (s : Shared) (H : Hp) (C : Addr) (cl : List (Str × Addr)) (fp : List Addr), PTs (X.blk s H scope (compEnvC scope cl C X.env) fp) ifs tt)
    (hk : ∀ (s : Shared) (H : Hp) (C : Addr) (cl : List (Str × Addr)) (fp : List Addr), PE (X.blk s H scope (compEnvC scope cl C X.env) fp) kx tk)
    (he : ∀ (s : Shared) (H : Hp) (C : Addr) (cl : List (Str × Addr)) (fp : List Addr), PE (X.blk s H scope (compEnvC scope cl C X.env) fp) vx tv) (hs : ∀ x, foldedSetIterable iter X.env x = pure x) :
    PE X (.DictComp kx vx [⟨tg, iter, ifs, 0⟩] scope pos) (tDcA X.K wi g tt tk tv (own.map (·.2))) := by
  refine ⟨fun pins s σ H Q I h => ?_⟩
  rw [arm_eval_DictComp]
  refine dcA_core hu hc hN I hi ok hg ht hk he hs h fun D C s' m H' I' q hn f => ⟨m, hn, fun h'' sb => ?_⟩
  obtain ⟨f0, f1, f2, f3, f4, f5⟩ := f
  exact ⟨.ref D, H', I'.turned (t' := s'.toks) (fun b o hb e => (sb.2 b hb).trans e) f0 f1 f3 f4 f5, rfl, q⟩
theorem ps_setDcA {i : Nat} {y : Str} {py : Pos} {kx vx tg iter : Expr} {ifs : List Expr} {scope : Scope} {own : List (Str × Nat)} {pos spos : Pos} {wi : TI} {g : TG} {tt : TT} {tk tv : TE} (hu : X.A.units + 1 < cLine) (hc : X.calm = true) (hN : X.N.Nodup) (hy : X.N[i]? = some y) (hyl : X.env.scope.names.lookup y = some .local)
    (hsw : swapsWith (.DictComp kx vx [⟨tg, iter, ifs, 0⟩] scope pos) (some (.Name y py)) spos.line X.env = pure true) (hi : PI X tg iter wi) (ok : BlkOk X.N X.env.scope scope own)
    (hg : ∀ (s : Shared) (H : Hp) (C : Addr) (cl : List (Str × Addr)) (fp : List Addr), PG (X.blk s H scope (compEnvC scope cl C X.env) fp) tg g) (ht : ∀ (s : Shared) (H : Hp) (C : Addr) (cl : List (Str × Addr)) (fp : List Addr), PTs (X.blk s H scope (compEnvC scope cl C X.env) fp) ifs tt)
    (hk : ∀ (s : Shared) (H : Hp) (C : Addr) (cl : List (Str × Addr)) (fp : List Addr), PE (X.blk s H scope (compEnvC scope cl C X.env) fp) kx tk)
    (he : ∀ (s : Shared) (H : Hp) (C : Addr) (cl : List (Str × Addr)) (fp : List Addr), PE (X.blk s H scope (compEnvC scope cl C X.env) fp) vx tv) (hs : ∀ x, foldedSetIterable iter X.env x = pure x) :
    PS X (.Assign [.Name y py] (.DictComp kx vx [⟨tg, iter, ifs, 0⟩] scope pos) spos) (tAsg (tDcA X.K wi g tt tk tv (own.map (·.2))) (gName i)) := by
  refine ⟨fun pins s σ H D I h => ?_⟩
  rw [exec_Assign_Name_used _ _ _ _ hsw]
  refine wpAny_bind (wpAny_standAt (wpAny_bind ?_))
  show wpAny _ X.A (do let _ ← comprehension (.DictComp kx vx [⟨tg, iter, ifs, 0⟩] scope pos) scope X.env (firstIterPos [⟨tg, iter, ifs, 0⟩] pos) newDict false (eval iter X.env) (some (assign (.Name y py) X.env))) _ _ s
  have h : tDcA X.K wi g tt tk tv (own.map (·.2)) σ H (fun x H1 => gName i x σ H1 D.nx) := h
  refine wpAny_bind (thn (dcA_core (Qf := fun _ s' => SP X pins D .next s') hu hc hN I hi ok hg ht hk he hs h fun L C s' m H' I' q hn f => ?_) fun _ s' hq => wpAny_pure (wpAny_pure hq))
  show wpAny _ _ (assign (.Name y py) X.env (.ref L)) _ _ _
  refine wpAny_assign_Name (store_ok2 (v := V.ref L) I' hN hy (.inl hyl) rfl (fun s2 I2 ⟨a, sb, ha⟩ => ?_) (.inr hyl))
  obtain ⟨f0, f1, f2, f3, f4, f5⟩ := f
  have haC : C ≠ a := by
    rcases ha with z | z
    · rw [z]; exact f1
    · exact fun e => f4 y a z e.symm
  refine ⟨m, hn.sameBut sb haC, fun h3 sb3 => ?_⟩
  exact ⟨_, H', I2.turned (t' := s2.toks) (fun b o hb e => (sb3.2 b hb).trans e) f0 f1 f3 f4 f5, q⟩
theorem sw_trueD {kx vx : Expr} {gs : List Comprehension} {scope : Scope} {pos py : Pos} {y : Str} {l : Nat} {env : PySem.Env} (hk : env.scope.kind = .function) (hy : env.scope.names.lookup y = some .local) (hl : (py.line == pos.line) = true)
    (ha : (scope.names.any fun (n, k) => n == y && (k == .local || k == .cell)) = false) : swapsWith (.DictComp kx vx gs scope pos) (some (.Name y py)) l env = pure true := by
  have ky : env.kindOf y = some .local := hy
  have hb : env.blockKind = .function := by unfold Env.blockKind; rw [hk]; rfl
  unfold swapsWith
  simp only [hb, ky, ha, Expr.pos, hl]
  rfl
end

/-- pairs put in, one after the other -/
theorem pairs_split : ∀ {xs : List D} {kvs : List (D × D)}, pairsOf xs = some kvs → ∀ {ys : List D}, ∀ {ms : List (D × D)}, pairsOf ys = some ms → pairsOf (xs ++ ys) = some (kvs ++ ms)
  | [], kvs, e, ys, ms, e2 => by cases e; exact e2
  | x :: xs, kvs, e, ys, ms, e2 => by
    cases x with
    | tuple l =>
      match l, e with
      | [k, v], e =>
        simp only [pairsOf] at e
        obtain ⟨r, e1, e3⟩ := Option.map_eq_some_iff.mp e
        cases e3
        simp only [List.cons_append, pairsOf]
        rw [pairs_split e1 e2]
        rfl
    | _ => cases e
theorem pairs_len : ∀ {xs : List D} {kvs : List (D × D)}, pairsOf xs = some kvs → kvs.length = xs.length
  | [], kvs, e => by cases e; rfl
  | x :: xs, kvs, e => by
    cases x with
    | tuple l =>
      match l, e with
      | [k, v], e =>
        simp only [pairsOf] at e
        obtain ⟨r, e1, e3⟩ := Option.map_eq_some_iff.mp e
        cases e3
        simp [pairs_len e1]
    | _ => cases e
theorem pairs_app : ∀ {xs ys : List D} {kvs : List (D × D)}, pairsOf (xs ++ ys) = some kvs → ∃ ks ms, pairsOf xs = some ks ∧ pairsOf ys = some ms ∧ kvs = ks ++ ms
  | [], ys, kvs, e => ⟨[], kvs, rfl, e, rfl⟩
  | x :: xs, ys, kvs, e => by
    cases x with
    | tuple l =>
      match l, e with
      | [k, v], e =>
        simp only [List.cons_append, pairsOf] at e
        obtain ⟨r, e1, e3⟩ := Option.map_eq_some_iff.mp e
        cases e3
        obtain ⟨ks, ms, g1, g2, rfl⟩ := pairs_app e1
        exact ⟨(k, v) :: ks, ms, by simp only [pairsOf]; rw [g1]; rfl, g2, rfl⟩
    | _ => cases e
theorem dput_keys {p : D → Bool} {kvs : List (D × D)} {k v : D} (h : (kvs.map (·.1)).all p = true) (hk : p k = true) : ((dput kvs k v).map (·.1)).all p = true := by
  unfold dput
  split
  · rw [List.map_map]
    rw [List.all_map] at h ⊢
    refine List.all_eq_true.mpr fun x hx => ?_
    have := List.all_eq_true.mp h x hx
    simp only [Function.comp] at this ⊢
    split <;> exact this
  · rw [List.map_append, List.all_append, h]
    simp [hk]
theorem dmerge_keys {p : D → Bool} : ∀ {ms kvs : List (D × D)}, (kvs.map (·.1)).all p = true → (ms.map (·.1)).all p = true → ((dmerge kvs ms).map (·.1)).all p = true
  | [], kvs, h, _ => h
  | m :: ms, kvs, h, h2 => by
    simp only [List.map_cons, List.all_cons, Bool.and_eq_true] at h2
    exact dmerge_keys (ms := ms) (kvs := dput kvs m.1 m.2) (dput_keys h h2.1) h2.2
theorem dput_len (kvs : List (D × D)) (k v : D) : (dput kvs k v).length ≤ kvs.length + 1 := by
  unfold dput
  split <;> simp
theorem dmerge_len : ∀ (ms kvs : List (D × D)), (dmerge kvs ms).length ≤ kvs.length + ms.length
  | [], kvs => Nat.le_refl _
  | m :: ms, kvs => by
    have h1 := dmerge_len ms (dput kvs m.1 m.2)
    have h2 := dput_len kvs m.1 m.2
    simp only [List.length_cons]
    show (dmerge (dput kvs m.1 m.2) ms).length ≤ _
    omega
theorem dmerge_snoc (kvs ms : List (D × D)) (k v : D) : dmerge kvs (ms ++ [(k, v)]) = dput (dmerge kvs ms) k v := by
  unfold dmerge
  rw [List.foldl_append]
  rfl
theorem key_ok {ks : List (D × D)} {k v : D} {ms : List (D × D)} (h : oneKind ((ks ++ (k, v) :: ms).map (·.1)) = true) : keyOk (dmerge [] ks) k = true := by
  unfold oneKind at h
  unfold keyOk
  simp only [List.map_append, List.map_cons, List.all_append, List.all_cons, Bool.or_eq_true, Bool.and_eq_true] at h ⊢
  rcases h with ⟨h1, h2, _⟩ | ⟨h1, h2, _⟩
  · exact .inl ⟨h2, by have := dmerge_keys (p := flatK) (kvs := []) rfl h1; rwa [List.all_map] at this⟩
  · exact .inr ⟨h2, by have := dmerge_keys (p := tupK) (kvs := []) rfl h1; rwa [List.all_map] at this⟩
section
variable {K : PySem.W.Frag} {pa : List Addr} {C : Ctx}
theorem top_ndt {F H : Hp} {a : Addr} {ds : D} (h : Top K F H a ds) : ∃ o, H a = some o ∧ ∀ ys, o ≠ .tup ys := by
  cases h with
  | lst h _ => exact ⟨_, h, nofun⟩
  | dk h _ => exact ⟨_, h, nofun⟩
  | dt h _ => exact ⟨_, h, nofun⟩
/-- a dict that no slot owns stays -/
theorem ES.staysT {O O1 : Addr → Prop} {F F1 H H1 : Hp} {Dd : Addr} {d : D} (a : ES O F H O1 F1 H1) (n : ¬ O Dd) (t : Top K F H Dd d) (f : F Dd = none) : Top K F1 H1 Dd d ∧ F1 Dd = none ∧ ¬ O1 Dd := by
  obtain ⟨o, e, ht⟩ := top_ndt t
  obtain ⟨h1, h2, h3⟩ := a.stays n e f ht
  exact ⟨t.keep a.stp.mono fun u q => by rw [e] at q; cases q; exact h1, h2, h3⟩
theorem dc_reading {kx vx : E} {tg : Tg} {it : It} {ifs : Es} {σ : St} {H : Hp} {Q : VK} (h : tE K pa (evE C (.dcomp kx vx tg it ifs)) σ H Q) : tDcA K (tI K pa (evI C it)) (tG K pa tg) (tT K pa (evF C ifs)) (tE K pa (evE C kx)) (tE K pa (evE C vx)) tg.slots σ H Q := by
  obtain ⟨F, ρ, r, ρ', R, e, k⟩ := h
  simp only [evE] at e
  obtain ⟨p, e1, e⟩ := Option.bind_eq_some_iff.mp e
  obtain ⟨q, e2, e⟩ := Option.bind_eq_some_iff.mp e
  obtain ⟨kvs, ekv, e⟩ := Option.bind_eq_some_iff.mp e
  split at e
  rotate_left
  · cases e
  rename_i one
  rw [Option.some.injEq, Prod.mk.injEq] at e
  obtain ⟨rfl, rfl⟩ := e
  refine ⟨F, ρ, p.1, p.2, R, e1, fun J F1 H1 R1 s1 hlen hY Dd hD => ?_⟩
  obtain ⟨Rw, ow⟩ := R1.wiped tg.slots (σ' := wipe σ tg.slots) (wipe_length σ _) fun j hj => wipe_out hj
  have hL : LIM = 16777216 := rfl
  generalize hf : (fun x ρ => (bindT tg x ρ).bind fun ρ1 => (evF C ifs ρ1).bind fun t => if t.1 = true then (evE C kx t.2).bind fun r => (frz r.2 r.1).bind fun z => (evE C vx z.2).bind fun r' => (frz r'.2 r'.1).map fun z' =>
          (some (PyData.tuple [z.1, z'.1]), wipeE z'.2 tg.slots)
        else some (none, wipeE t.2 tg.slots)) = f at e2
  refine ⟨fun i m H => m + i = p.1.length ∧ ∃ ρi Fi accd acck out, Rel K pa ρi (wipe σ tg.slots) Fi H ∧ ES (Own (wipeE p.2 tg.slots) (wipe σ tg.slots)) F1 H1 (Own ρi (wipe σ tg.slots)) Fi H ∧
      Top K Fi H Dd (.dict (dmerge [] acck)) ∧ Fi Dd = none ∧ pairsOf accd = some acck ∧ accd.length ≤ i ∧ ρi.length = p.2.length ∧ compGo f (p.1.drop i) ρi = some (out, q.2) ∧ accd ++ out = q.1,
    ⟨p.1.length, rfl, wipeE p.2 tg.slots, F1, [], [], q.1, Rw.alloc hD, .alloc hD, .dk upd_same .nil, R1.sub.none_of hD, rfl, Nat.le_refl _, wipeE_len _, e2, rfl⟩, ?_⟩
  rintro i m H2 ⟨hm, ρi, Fi, accd, acck, out, Ri, si, tDi, fDi, ai, li, gi, ei, oi⟩
  have nD : ¬ Own ρi (wipe σ tg.slots) Dd := fun z => Rw.there (si.less Dd z) hD
  obtain ⟨y1, y2⟩ := hY i Fi H2 si.stp.mono Ri.sub
  by_cases hi : i < p.1.length
  · refine .inr ?_
    obtain ⟨d, ed⟩ : ∃ d, p.1[i]? = some d := ⟨p.1[i], by simp [hi]⟩
    obtain ⟨g1, g2⟩ := y1 d ed
    rw [drop_cons ed] at ei
    simp only [compGo] at ei
    obtain ⟨t, et, ei⟩ := Option.bind_eq_some_iff.mp ei
    obtain ⟨u, eu, ei⟩ := Option.bind_eq_some_iff.mp ei
    rw [← hf] at et
    obtain ⟨ρ1, eb, et⟩ := Option.bind_eq_some_iff.mp et
    obtain ⟨c, ec, et⟩ := Option.bind_eq_some_iff.mp et
    refine ⟨g1, _, fun H' z => z, fun x H' yx => ?_⟩
    obtain ⟨F', R', dx, s'⟩ := blk_turn (ρw := ρi) (F1 := F1) (H1 := H1) Ri (g2 x H' yx)
    obtain ⟨hD', fD', nD'⟩ := s'.staysT nD tDi fDi
    refine ⟨F', ρi, d, ρ1, R', dx, eb, fun σ2 R2 o2 eq2 len2 => ⟨wipe_eq len2 (fun j hj => (eq2 j hj).2) ▸ ?_, F', ρ1, c.1, c.2, R2, ec, fun F3 H3 R3 s3 => ?_⟩⟩
    · have : wipe (wipe σ tg.slots) tg.slots = wipe σ tg.slots := wipe_eq (wipe_length _ _) fun j hj => wipe_out hj
      exact this
    have s3' := (si.trans s').into s3 o2
    obtain ⟨hD3, fD3, nD3⟩ := s3.staysT (fun z => nD' (o2 _ z)) hD' fD'
    have agree : ∀ j : Nat, j ∉ tg.slots → (wipe σ tg.slots)[j]? = σ2[j]? := fun j hj => (eq2 j hj).2.symm
    have lens : (wipe σ tg.slots).length = σ2.length := len2.symm
    cases hc : c.1 with
    | false =>
      rw [hc] at et
      simp only [Bool.false_eq_true, if_false] at et ⊢
      cases et
      obtain ⟨R4, o4⟩ := R3.wiped tg.slots lens agree
      obtain rfl : out = u.1 := by
        simp only [Option.some.injEq, Prod.mk.injEq] at ei
        exact ei.1.symm
      have ei2 : u.2 = q.2 := by
        simp only [Option.some.injEq, Prod.mk.injEq] at ei
        exact ei.2
      refine ⟨m - 1, by omega, by omega, wipeE c.2 tg.slots, F3, accd, acck, u.1, R4, ⟨s3'.stp.less o4, fun b z => s3'.less b (o4 b z)⟩, hD3, fD3, ai, by omega, ?_, by rw [← ei2]; exact eu, oi⟩
      rw [wipeE_len, ← gi]
      have := R3.len
      have := Ri.len
      omega
    | true =>
      rw [hc] at et
      simp only [if_true] at et ⊢
      obtain ⟨w, ew, et⟩ := Option.bind_eq_some_iff.mp et
      obtain ⟨z, ez, et⟩ := Option.bind_eq_some_iff.mp et
      obtain ⟨w', ew', et⟩ := Option.bind_eq_some_iff.mp et
      obtain ⟨z', ez', et⟩ := Option.map_eq_some_iff.mp et
      cases et
      refine ⟨F3, c.2, w.1, w.2, R3, ew, fun v F4 H4 R4 s4 w4 => ?_⟩
      obtain ⟨F5, R5, dv, s5, m5⟩ := w4.frz R4 R3 s4 ez
      obtain ⟨hD5, fD5, nD5⟩ := s5.staysT nD3 hD3 fD3
      refine ⟨F5, z.2, w'.1, w'.2, R5, ew', fun v' F4' H4' R4' s4' w4' => ?_⟩
      obtain ⟨F6, R6, dv', s6, m6⟩ := w4'.frz R4' R5 s4' ez'
      obtain ⟨hD6, fD6, nD6⟩ := s6.staysT nD5 hD5 fD5
      obtain ⟨R7, o7⟩ := R6.wiped tg.slots lens agree
      have nD7 : ¬ Own (wipeE z'.2 tg.slots) (wipe σ tg.slots) Dd := fun y => nD6 (o7 _ y)
      have ei1 : PyData.tuple [z.1, z'.1] :: u.1 = out ∧ u.2 = q.2 := by
        simp only [Option.some.injEq, Prod.mk.injEq] at ei
        exact ei
      have sA := (s3'.into s5 fun _ y => y).into s6 fun _ y => y
      have kk : keyOk (dmerge [] acck) z.1 = true := by
        rw [← oi, ← ei1.1] at ekv
        obtain ⟨ks, ms, q1, q2, q3⟩ := pairs_app ekv
        rw [ai] at q1
        cases q1
        simp only [pairsOf] at q2
        obtain ⟨rr, q4, q5⟩ := Option.map_eq_some_iff.mp q2
        subst q5
        rw [q3] at one
        exact key_ok one
      have hlen2 := dmerge_len acck []
      have hlen3 := pairs_len ai
      simp only [List.length_nil, Nat.zero_add] at hlen2
      refine ⟨F6, _, z.1, z'.1, R6.sub, hD6, dv.sub s6.stp.mono, dv', kk, by omega, fun o top => ?_⟩
      refine ⟨m - 1, by omega, by omega, wipeE z'.2 tg.slots, F6, accd ++ [.tuple [z.1, z'.1]], acck ++ [(z.1, z'.1)], u.1, R7.atD nD7 fD6, ES.atD ⟨sA.stp.less o7, fun b y => sA.less b (o7 b y)⟩ hD, ?_, fD6,
        pairs_split ai rfl, by simp; omega, ?_, by rw [← ei1.2]; exact eu, by rw [← oi, ← ei1.1]; simp⟩
      · rw [dmerge_snoc]; exact top
      · rw [wipeE_len, ← gi]
        have := R6.len
        have := Ri.len
        omega
  · have hi2 : i = p.1.length := by omega
    subst hi2
    rw [List.drop_length] at ei
    simp only [compGo] at ei
    cases ei
    rw [List.append_nil] at oi
    subst oi
    rw [ai] at ekv
    cases ekv
    obtain ⟨Rb, sb⟩ := R1.backs Ri si gi
    exact .inl ⟨y2 (Nat.le_refl _), k _ Fi H2 Rb (s1.trans sb) ⟨Dd, rfl, Classical.byContradiction fun z => s1.stp.dom Dd z hD, fDi, tDi⟩⟩
end
end PI

set_option Elab.async false
set_option linter.all false
set_option maxRecDepth 100000
set_option maxHeartbeats 4000000
/-! PIr: statements. -/
namespace PI
set_option autoImplicit false
open PySem PySem.Spec PySem.W L2
open PyProof.Rows hiding St

/-- a value that is given back stands -/
def RT (K : PySem.W.Frag) (H0 : Hp) (ρ : Env) (σ : St) (F H : Hp) : Bool → D → V → Prop
  | false, d, v => DP K F v d
  | true, d, v => ∃ a, v = .ref a ∧ F a = none ∧ Top K F H a d ∧ (H0 a = none ∨ ∃ i : Nat, ρ[i]? = some (.ow none d) ∧ σ[i]? = some (some (.ref a)))
def EndOk (K : PySem.W.Frag) (pa : List Addr) (ρ : Env) (σ : St) (F H : Hp) (Dn : Ends) (ρ' : Env) : Fl → Prop
  | .nx => ∀ σ' F' H', Rel K pa ρ' σ' F' H' → Stp (Own ρ σ) F H (Own ρ' σ') F' H' → Dn.nx σ' H'
  | .rt b d => ∀ v σ' F' H', Rel K pa ρ' σ' F' H' → Stp (Own ρ σ) F H (Own ρ' σ') F' H' → RT K H ρ' σ' F' H' b d v → Dn.rt v H'
def tS (K : PySem.W.Frag) (pa : List Addr) (ev : Env → Option (Fl × Env)) : TS := fun Dn σ H => ∃ F ρ fl ρ', Rel K pa ρ σ F H ∧ ev ρ = some (fl, ρ') ∧ EndOk K pa ρ σ F H Dn ρ' fl
section
variable {K : PySem.W.Frag} {pa : List Addr}
theorem RT.back {H0 H1 : Hp} {ρ : Env} {σ : St} {F H : Hp} {b : Bool} {d : D} {v : V} (h : RT K H1 ρ σ F H b d v) (k : ∀ b, H0 b ≠ none → H1 b ≠ none) : RT K H0 ρ σ F H b d v := by
  cases b with
  | false => exact h
  | true =>
    obtain ⟨a, h1, h2, h3, h4⟩ := h
    exact ⟨a, h1, h2, h3, h4.imp (fun z => Classical.byContradiction fun y => k a y z) id⟩
/-- what ends from a later state ends from an earlier one -/
theorem EndOk.from {ρ ρ1 ρ' : Env} {σ σ1 : St} {F F1 H H1 : Hp} {Dn : Ends} {fl : Fl} (s : Stp (Own ρ σ) F H (Own ρ1 σ1) F1 H1) (h : EndOk K pa ρ σ F H Dn ρ' fl) : EndOk K pa ρ1 σ1 F1 H1 Dn ρ' fl := by
  cases fl with
  | nx => exact fun σ' F' H' R st => h σ' F' H' R (s.trans st)
  | rt b d => exact fun v σ' F' H' R st rt => h v σ' F' H' R (s.trans st) (rt.back s.dom)
/-- a new object goes into a slot -/
theorem Rel.putOwn {ρ : Env} {σ : St} {F H : Hp} (R : Rel K pa ρ σ F H) (i : Nat) {a : Addr} {d : D} (f : F a = none) (t : Top K F H a d) (n : ¬ Own ρ σ a) :
    Rel K pa (ρ.set i (.ow none d)) (σ.set i (some (.ref a))) F H ∧ ∀ b, Own (ρ.set i (.ow none d)) (σ.set i (some (.ref a))) b → Own ρ σ b ∨ b = a := by
  have lenR := R.len
  have back : ∀ (j : Nat) (u : Option Nat) (x : D), (ρ.set i (.ow none d))[j]? = some (.ow u x) → (j = i ∧ u = none ∧ x = d ∧ (σ.set i (some (.ref a)))[j]? = some (some (.ref a))) ∨ (j ≠ i ∧ ρ[j]? = some (.ow u x) ∧ (σ.set i (some (.ref a)))[j]? = σ[j]?) := fun j u x e => by
    by_cases hj : j = i
    · subst hj
      have hi : j < ρ.length := by have := (List.getElem?_eq_some_iff.mp e).1; simpa using this
      rw [getE_set_self hi] at e
      cases e
      exact .inl ⟨rfl, rfl, rfl, by simp [show j < σ.length by omega]⟩
    · rw [List.getElem?_set_ne (Ne.symm hj)] at e
      exact .inr ⟨hj, e, by rw [List.getElem?_set_ne (Ne.symm hj)]⟩
  refine ⟨⟨by simpa using R.len, R.sub, fun j x e => ?_, fun j u x e => ?_, fun j k u w x y b e1 e2 v1 v2 => ?_⟩, fun b ⟨j, u, x, e1, e2⟩ => ?_⟩
  · by_cases hj : j = i
    · subst hj
      have hi : j < ρ.length := by have := (List.getElem?_eq_some_iff.mp e).1; simpa using this
      rw [getE_set_self hi] at e
      cases e
    · rw [List.getElem?_set_ne (Ne.symm hj)] at e
      rw [List.getElem?_set_ne (Ne.symm hj)]
      exact R.sh j x e
  · rcases back j u x e with ⟨rfl, rfl, rfl, z⟩ | ⟨hj, z, z2⟩
    · exact ⟨a, z, f, t, nofun⟩
    · rw [z2]; exact R.ow j u x z
  · rcases back j u x e1 with ⟨rfl, rfl, rfl, z⟩ | ⟨hj, z, z2⟩ <;> rcases back k w y e2 with ⟨rfl, rfl, rfl, y1⟩ | ⟨hk, y1, y2⟩
    · rfl
    · rw [z] at v1
      cases v1
      exact absurd ⟨k, w, y, y1, by rw [← y2]; exact v2⟩ n
    · rw [y1] at v2
      cases v2
      exact absurd ⟨j, u, x, z, by rw [← z2]; exact v1⟩ n
    · exact R.inj j k u w x y b z y1 (by rw [← z2]; exact v1) (by rw [← y2]; exact v2)
  · rcases back j u x e1 with ⟨rfl, rfl, rfl, z⟩ | ⟨hj, z, z2⟩
    · rw [z] at e2
      cases e2
      exact .inr rfl
    · exact .inl ⟨j, u, x, z, by rw [← z2]; exact e2⟩
theorem stp_put {O O1 O2 : Addr → Prop} {F F1 H H1 : Hp} {a : Addr} (s : ES O F H O1 F1 H1) (n : H a = none) (o : ∀ b, O2 b → O1 b ∨ b = a) : Stp O F H O2 F1 H1 :=
  ⟨s.stp.mono, s.stp.keep, s.stp.newF, fun b h => (o b h).elim (fun z => s.stp.newO b z) fun z => .inr (z ▸ n), s.stp.dom⟩
/-- a result is stored -/
theorem putR_ok {ρ ρ1 ρ2 : Env} {σ : St} {F H F1 H1 : Hp} {r : RV} {v : V} {i : Nat} (R : Rel K pa ρ σ F H) (R1 : Rel K pa ρ1 σ F1 H1) (s1 : ES (Own ρ σ) F H (Own ρ1 σ) F1 H1) (w : VR K H σ F1 H1 v r) (e : putR ρ1 i r = some ρ2) :
    ∃ F2, Rel K pa ρ2 (σ.set i (some v)) F2 H1 ∧ Stp (Own ρ σ) F H (Own ρ2 (σ.set i (some v))) F2 H1 := by
  cases r with
  | sh d =>
    cases e
    obtain ⟨R2, o2⟩ := R1.put i w
    exact ⟨F1, R2, s1.stp.less o2⟩
  | fr d =>
    cases e
    obtain ⟨a, rfl, h1, h2, h3⟩ := w
    obtain ⟨R2, o2⟩ := R1.putOwn i h2 h3 fun z => R.there (s1.less a z) h1
    exact ⟨F1, R2, stp_put s1 h1 o2⟩
  | pk j =>
    simp only [putR] at e
    obtain ⟨p, e1, e2⟩ := Option.map_eq_some_iff.mp e
    subst e2
    obtain ⟨F2, R2, dv, s2, _⟩ := VR.frz R1 R s1 (show VR K H σ F1 H1 v (.pk j) from w) (show frz ρ1 (.pk j) = some (p.1, p.2) from e1)
    obtain ⟨R3, o3⟩ := R2.put i dv
    exact ⟨F2, R3, s2.stp.less o3⟩
end

section
variable {X : Cx} {pa : List Addr} {C : Ctx} {x y z : Expr} {a b c : E} {pos : Pos}
theorem d_expr {e : Expr} (hs : swapsWith e none pos.line X.env = pure false) (hy : ∀ y p, e ≠ .Yield y p) (h : PE X e (tE X.K pa (evE C a))) (k : ∀ {te}, PE X e te → PS X (.Expr e pos) (tDrop te)) : PS X (.Expr e pos) (tS X.K pa (evS C (.expr a))) :=
  ps_imp (k h) fun Dn σ H ⟨F, ρ, fl, ρ', R, e, q⟩ => by
    simp only [evS] at e
    obtain ⟨p, e1, e2⟩ := Option.map_eq_some_iff.mp e
    cases e2
    exact ⟨F, ρ, p.1, p.2, R, e1, fun v F' H' R' s' _ => q σ F' H' R' s'.stp⟩
theorem d_bad {st : Stmt} : PS X st (tS X.K pa (evS C .bad)) := ⟨fun pn s σ H Dn I ⟨F, ρ, fl, ρ', R, e, q⟩ => by simp only [evS] at e; cases e⟩
theorem d_pass : PS X (.Pass pos) (tS X.K pa (evS C .pass)) := ps_imp ps_pass fun Dn σ H ⟨F, ρ, fl, ρ', R, e, q⟩ => by
  simp only [evS] at e
  cases e
  exact q σ F H R .rfl'
/-- a name gets a value -/
theorem d_set {st : Stmt} {te : TE} {i : Nat} (h : PS X st (tAsg te (gName i))) (hr : ∀ σ H Q, tE X.K pa (evE C a) σ H Q → te σ H Q) : PS X st (tS X.K pa (evS C (.set (.nm i) a))) :=
  ps_imp h fun Dn σ H ⟨F, ρ, fl, ρ', R, e, q⟩ => by
    simp only [evS, put1] at e
    obtain ⟨p, e1, e2⟩ := Option.bind_eq_some_iff.mp e
    obtain ⟨ρ2, e3, e4⟩ := Option.map_eq_some_iff.mp e2
    cases e4
    refine hr σ H _ ⟨F, ρ, p.1, p.2, R, e1, fun v F1 H1 R1 s1 w1 => ?_⟩
    obtain ⟨F2, R2, s2⟩ := putR_ok R R1 s1 w1 e3
    exact q _ F2 H1 R2 s2
/-- o[k] = v by values -/
def rPut (K : PySem.W.Frag) : TSet := fun o i v H Q => ∃ F a c k e c', Sub F H ∧ o = .ref a ∧ Top K F H a c ∧ DP K F i k ∧ DP K F v e ∧ setIx c k e = some c' ∧ ∀ u, Top K F (upd H a u) a c' → Q (upd H a u)
theorem put_ok (hu : X.A.units + 1 < cLine) : PSet X (rPut X.K) := by
  intro pn s σ H o i v ov iv u Q I ro ri rv ⟨F, a, c, k, e, c', sb, eo, top, hk, he, es, q⟩
  subst eo
  cases (show ov = Value.ref a from ro)
  cases c with
  | dict ds =>
    simp only [setIx] at es
    split at es
    · rename_i hc
      cases es
      simp only [Bool.and_eq_true, decide_eq_true_eq] at hc
      obtain ⟨w, top', g⟩ := dput_ok hu I sb top hk he hc.1 hc.2 ri rv
      exact (g (fun _ s' => ∃ H', Inv X pn σ H' s' ∧ Q H') X.xe fun s' I' => ⟨_, I', q w top'⟩).1
    · cases es
  | list xs =>
    cases k with
    | int n =>
      simp only [setIx] at es
      obtain ⟨j, e1, es⟩ := Option.bind_eq_some_iff.mp es
      split at es
      · cases es
        cases top with
        | lst h1 h2 =>
          cases hk
          rw [placeOf_ixN, ← h2.len] at e1
          exact set_list pn s σ H (.ref a) (.int n) v _ iv u Q I (show RelV (.ref a) (Value.ref a) from rfl) ri rv ⟨a, _, n, j, rfl, rfl, h1, e1, q _ (.lst upd_same (DPs.setN he j h2))⟩
      · cases es
    | _ => cases es
  | _ => cases es
theorem sw_sub {e o i : Expr} {p : Pos} {l : Nat} {env : PySem.Env} : swapsWith e (some (.Subscript o i p)) l env = pure false := by
  unfold swapsWith
  cases e <;> rfl
def notSlice : Expr → Bool
  | .Slice _ _ _ _ => false
  | _ => true
theorem asg_sub {o i : Expr} {p : Pos} {env : PySem.Env} (h : notSlice i = true) (v : Value) : assign (.Subscript o i p) env v = (do
      let ov ← holding [v] (eval o env)
      let iv ← holding [v, ov] (eval i env)
      standAt p
      holding [v, ov, iv] (setItem ov iv v)
      release [v, ov, iv] []) := by cases i <;> first | rfl | cases h
theorem plain_ix {i : Expr} (h : notSlice i = true) : PlainIx i := by
  intro o j
  cases i <;> first | rfl | cases h
def notSet : Expr → Bool
  | .Set _ _ _ => false
  | _ => true
theorem fold_set {e : Expr} {env : PySem.Env} (h : notSet e = true) : ∀ x, foldedSetIterable e env x = pure x := by
  intro x
  cases e <;> first | rfl | cases h
/-- a slot's place gets a value -/
theorem d_ix {i : Nat} {tp : Pos} {o : Expr} (hu : X.A.units + 1 < cLine) (hsl : notSlice y = true) (hv : PE X o (tVar i)) (hx : PE X x (tE X.K pa (evE C a))) (hk : PE X y (tE X.K pa (evE C b))) : PS X (.Assign [.Subscript o y tp] x pos) (tS X.K pa (evS C (.set (.ix i b) a))) :=
  ps_imp (ps_asg hx (pg_sub hv hk (put_ok hu) (asg_sub hsl)) (show swapsWith x (some (.Subscript o y tp)) pos.line X.env = pure false from sw_sub) (by unfold swappedStores; rfl) rfl) fun Dn σ H ⟨F, ρ, fl, ρ', R, e, q⟩ => by
    simp only [evS, put1] at e
    obtain ⟨p, e1, e2⟩ := Option.bind_eq_some_iff.mp e
    obtain ⟨ρ2, e3, e4⟩ := Option.map_eq_some_iff.mp e2
    cases e4
    obtain ⟨z, e5, e6⟩ := Option.bind_eq_some_iff.mp e3
    split at e6
    · rename_i t0 c0 q0
      obtain ⟨w, e7, e8⟩ := Option.bind_eq_some_iff.mp e6
      obtain ⟨m, e9, e10⟩ := Option.bind_eq_some_iff.mp e8
      split at e10
      · rename_i t c q1
        obtain ⟨c', e11, e12⟩ := Option.map_eq_some_iff.mp e10
        subst e12
        refine ⟨F, ρ, p.1, p.2, R, e1, fun v F1 H1 R1 s1 w1 => ?_⟩
        obtain ⟨F2, R2, dv, s2, _⟩ := w1.frz R1 R s1 e5
        obtain ⟨a', z1, z2, z3, z4⟩ := R2.ow i t0 c0 (at_some q0 nofun)
        refine ⟨.ref a', z1, F2, z.2, w.1, w.2, R2, e7, fun u F3 H3 R3 s3 w3 => ?_⟩
        obtain ⟨F4, R4, dk, s4, m4⟩ := w3.frz R3 R2 s3 e9
        obtain ⟨a2, y1, y2, y3, y4⟩ := R4.ow i t c (at_some q1 nofun)
        rw [z1] at y1
        cases y1
        refine ⟨F4, a', c, m.1, z.1, c', R4.sub, rfl, y3, dk, dv.sub s4.stp.mono, e11, fun o' top => ?_⟩
        obtain ⟨R5, s5⟩ := R4.change (at_some q1 nofun) z1 top
        exact q σ F4 _ R5 ((s2.trans s4).trans s5).stp
      · cases e10
    · cases e6
/-! several names at once -/
/-- the parts of a tuple, the new objects apart -/
inductive PVs (K : PySem.W.Frag) (H0 F H : Hp) : List V → List RV → List Addr → Prop
  | nil : PVs K H0 F H [] [] []
  | sh {v : V} {d : D} {vs : List V} {rs : List RV} {la : List Addr} : DP K F v d → PVs K H0 F H vs rs la → PVs K H0 F H (v :: vs) (.sh d :: rs) la
  | fr {a : Addr} {d : D} {vs : List V} {rs : List RV} {la : List Addr} : H0 a = none → F a = none → Top K F H a d → a ∉ la → PVs K H0 F H vs rs la → PVs K H0 F H (.ref a :: vs) (.fr d :: rs) (a :: la)
theorem PVs.back {K : PySem.W.Frag} {H0 H1 F H : Hp} (k : ∀ b, H0 b ≠ none → H1 b ≠ none) : ∀ {vs : List V} {rs : List RV} {la : List Addr}, PVs K H1 F H vs rs la → PVs K H0 F H vs rs la
  | _, _, _, .nil => .nil
  | _, _, _, .sh h t => .sh h (PVs.back k t)
  | _, _, _, .fr h1 h2 h3 h4 t => .fr (Classical.byContradiction fun z => k _ z h1) h2 h3 h4 (PVs.back k t)
theorem PVs.none {K : PySem.W.Frag} {H0 F H : Hp} : ∀ {vs : List V} {rs : List RV} {la : List Addr}, PVs K H0 F H vs rs la → ∀ a ∈ la, H0 a = Option.none
  | _, _, _, .sh h t, a, m => PVs.none t a m
  | _, _, _, .fr h1 h2 h3 h4 t, a, m => by
    rcases List.mem_cons.mp m with rfl | m
    · exact h1
    · exact PVs.none t a m
def tPV (K : PySem.W.Frag) (pa : List Addr) (ev : Env → Option (List RV × Env)) : TA := fun σ H Q => ∃ F ρ rs ρ', Rel K pa ρ σ F H ∧ ev ρ = some (rs, ρ') ∧
  ∀ vs la F' H', Rel K pa ρ' σ F' H' → ES (Own ρ σ) F H (Own ρ' σ) F' H' → PVs K H F' H' vs rs la → Q vs H'
theorem v_nil : PA X [] (tPV X.K pa (evP C .nil)) := pa_imp pa_nil fun σ H Q ⟨F, ρ, ds, ρ', R, e, k⟩ => by
  simp only [evP] at e
  cases e
  exact k [] [] F H R .rfl' .nil
theorem v_cons {xs : List Expr} {es : Es} (hs : notStar x = true) (h1 : PE X x (tE X.K pa (evE C a))) (h2 : PA X xs (tPV X.K pa (evP C es))) : PA X (x :: xs) (tPV X.K pa (evP C (.cons a es))) :=
  pa_imp (pa_cons h1 h2 (star_cons hs)) fun σ H Q ⟨F, ρ, ds, ρ', R, e, k⟩ => by
    simp only [evP] at e
    obtain ⟨p, e1, e⟩ := Option.bind_eq_some_iff.mp e
    obtain ⟨r, ρ1⟩ := p
    refine ⟨F, ρ, r, ρ1, R, e1, fun v1 F1 H1 R1 s1 w1 => ?_⟩
    cases r with
    | pk i =>
      simp only at e
      obtain ⟨z, e2, e⟩ := Option.bind_eq_some_iff.mp e
      obtain ⟨q, e3, e⟩ := Option.bind_eq_some_iff.mp e
      cases e
      obtain ⟨F2, R2, dv, s2, _⟩ := w1.frz R1 R s1 e2
      exact ⟨F2, z.2, q.1, q.2, R2, e3, fun vs la F3 H3 R3 s3 w3 => k _ la F3 H3 R3 (s2.trans s3) (.sh (dv.sub s3.stp.mono) (w3.back s1.stp.dom))⟩
    | sh d =>
      simp only at e
      obtain ⟨q, e3, e⟩ := Option.bind_eq_some_iff.mp e
      cases e
      exact ⟨F1, ρ1, q.1, q.2, R1, e3, fun vs la F3 H3 R3 s3 w3 => k _ la F3 H3 R3 (s1.trans s3) (.sh (DP.sub s3.stp.mono w1) (w3.back s1.stp.dom))⟩
    | fr d =>
      simp only at e
      obtain ⟨q, e3, e⟩ := Option.bind_eq_some_iff.mp e
      cases e
      refine ⟨F1, ρ1, q.1, q.2, R1, e3, fun vs la F3 H3 R3 s3 w3 => ?_⟩
      obtain ⟨a', rfl, h1, h2, h3⟩ := (w1.goes R s1 s3)
      obtain ⟨a'', eq, g1, g2, g3⟩ := w1
      cases eq
      exact k _ (a' :: la) F3 H3 R3 (s1.trans s3) (.fr h1 h2 h3 (fun m => g3.there (w3.none a' m)) (w3.back s1.stp.dom))
def namesT : List Nat → Ts
  | [] => .nil
  | i :: is => .cons (.nm i) (namesT is)
/-- they go into their slots -/
theorem putN_ok {K : PySem.W.Frag} : ∀ {is : List Nat} {vs : List V} {rs : List RV} {la : List Addr} {O : Addr → Prop} {ρ ρ1 ρ2 : Env} {σ σ1 : St} {F H F1 H1 : Hp}, Rel K pa ρ1 σ1 F1 H1 → Stp O F H (Own ρ1 σ1) F1 H1 → PVs K H F1 H1 vs rs la → (∀ a ∈ la, ¬ Own ρ1 σ1 a) →
    putN C (namesT is) rs ρ1 = some ρ2 → Rel K pa ρ2 (setV is vs σ1) F1 H1 ∧ Stp O F H (Own ρ2 (setV is vs σ1)) F1 H1 ∧ vs.length = is.length
  | [], _, _, _, O, ρ, ρ1, ρ2, σ, σ1, F, H, F1, H1, R1, s1, .nil, n, e => by simp only [namesT, putN] at e; cases e; exact ⟨R1, s1, rfl⟩
  | [], _, _, _, O, ρ, ρ1, ρ2, σ, σ1, F, H, F1, H1, R1, s1, .sh _ _, n, e => by simp only [namesT, putN] at e; cases e
  | [], _, _, _, O, ρ, ρ1, ρ2, σ, σ1, F, H, F1, H1, R1, s1, .fr _ _ _ _ _, n, e => by simp only [namesT, putN] at e; cases e
  | i :: is, _, _, _, O, ρ, ρ1, ρ2, σ, σ1, F, H, F1, H1, R1, s1, .nil, n, e => by simp only [namesT, putN] at e; cases e
  | i :: is, _, _, _, O, ρ, ρ1, ρ2, σ, σ1, F, H, F1, H1, R1, s1, .sh h t, n, e => by
    simp only [namesT, putN, put1, putR, Option.bind_some] at e
    obtain ⟨R2, o2⟩ := R1.put i h
    obtain ⟨q1, q2, q3⟩ := putN_ok (ρ := ρ) (σ := σ) R2 (s1.less o2) t (fun a m z => n a m (o2 a z)) e
    exact ⟨q1, q2, by simp [q3]⟩
  | i :: is, _, _, _, O, ρ, ρ1, ρ2, σ, σ1, F, H, F1, H1, R1, s1, .fr (a := a) h1 h2 h3 h4 t, n, e => by
    simp only [namesT, putN, put1, putR, Option.bind_some] at e
    obtain ⟨R2, o2⟩ := R1.putOwn i h2 h3 (n a List.mem_cons_self)
    obtain ⟨q1, q2, q3⟩ := putN_ok (ρ := ρ) (σ := σ) R2 ⟨s1.mono, s1.keep, s1.newF, fun b z => (o2 b z).elim (fun y => s1.newO b y) fun y => .inr (y ▸ h1), s1.dom⟩ t
      (fun c m z => (o2 c z).elim (fun y => n c (List.mem_cons_of_mem _ m) y) fun y => h4 (y ▸ m)) e
    exact ⟨q1, q2, by simp [q3]⟩
theorem d_par {st : Stmt} {is : List Nat} {xs : List Expr} {es : Es} {ta : TA} (ha : PA X xs (tPV X.K pa (evP C es))) (h : PS X st (fun Dn σ H => tPV X.K pa (evP C es) σ H fun vs H1 => vs.length = is.length ∧ Dn.nx (setV is vs σ) H1)) : PS X st (tS X.K pa (evS C (.par (namesT is) es))) :=
  ps_imp h fun Dn σ H ⟨F, ρ, fl, ρ', R, e, q⟩ => by
    simp only [evS] at e
    obtain ⟨p, e1, e2⟩ := Option.bind_eq_some_iff.mp e
    obtain ⟨ρ2, e3, e4⟩ := Option.map_eq_some_iff.mp e2
    cases e4
    refine ⟨F, ρ, p.1, p.2, R, e1, fun vs la F1 H1 R1 s1 w1 => ?_⟩
    obtain ⟨q1, q2, q3⟩ := putN_ok (ρ := ρ) (σ := σ) (O := Own ρ σ) R1 s1.stp w1 (fun a m z => R.there (s1.less a z) (w1.none a m)) e3
    exact ⟨q3, q _ F1 H1 q1 q2⟩
theorem d_par2 {i j : Nat} {u v : Str} {es : Es} {px py pt : Pos} {kt k2 : Nat} {pt2 : Pos} (hc : X.calm = true) (hN : X.N.Nodup) (hi : X.N[i]? = some u) (hj : X.N[j]? = some v) (hij : i ≠ j)
    (hx : X.env.scope.names.lookup u = some .local) (hy : X.env.scope.names.lookup v = some .local) (ha : PA X [x, y] (tPV X.K pa (evP C es)))
    (hw : swappedStores [.Tuple [.Name u px, .Name v py] kt pt] (.Tuple [x, y] k2 pt2) X.env = pure (some [u, v])) :
    PS X (.Assign [.Tuple [.Name u px, .Name v py] kt pt] (.Tuple [x, y] k2 pt2) pos) (tS X.K pa (evS C (.par (namesT [i, j]) es))) :=
  d_par (ta := tNil) ha (ps_imp (ps_par hc hN hi hj hij hx hy ha hw rfl) fun Dn σ H ⟨F, ρ, rs, ρ', R, e, k⟩ => ⟨F, ρ, rs, ρ', R, e, fun vs la F1 H1 R1 s1 w1 => by
    obtain ⟨l, q⟩ := k vs la F1 H1 R1 s1 w1
    match vs, l, q with
    | [a, b], _, q => exact ⟨a, b, rfl, q⟩⟩)
theorem d_par3 {i j l : Nat} {u v w : Str} {es : Es} {px py pz pt : Pos} {kt k2 : Nat} {pt2 : Pos} (hc : X.calm = true) (hN : X.N.Nodup) (hi : X.N[i]? = some u) (hj : X.N[j]? = some v) (hl : X.N[l]? = some w) (hij : i ≠ j) (hil : i ≠ l) (hjl : j ≠ l)
    (hx : X.env.scope.names.lookup u = some .local) (hy : X.env.scope.names.lookup v = some .local) (hz : X.env.scope.names.lookup w = some .local) (ha : PA X [x, y, z] (tPV X.K pa (evP C es)))
    (hw : swappedStores [.Tuple [.Name u px, .Name v py, .Name w pz] kt pt] (.Tuple [x, y, z] k2 pt2) X.env = pure (some [u, v, w])) :
    PS X (.Assign [.Tuple [.Name u px, .Name v py, .Name w pz] kt pt] (.Tuple [x, y, z] k2 pt2) pos) (tS X.K pa (evS C (.par (namesT [i, j, l]) es))) :=
  d_par (ta := tNil) ha (ps_imp (ps_par3 hc hN hi hj hl hij hil hjl hx hy hz ha hw rfl) fun Dn σ H ⟨F, ρ, rs, ρ', R, e, k⟩ => ⟨F, ρ, rs, ρ', R, e, fun vs la F1 H1 R1 s1 w1 => by
    obtain ⟨l, q⟩ := k vs la F1 H1 R1 s1 w1
    match vs, l, q with
    | [a, b, c], _, q => exact ⟨a, b, c, rfl, q⟩⟩)
/-- a, b = one value -/
theorem d_unp {is : List Nat} {tg : Expr} {e0 : Expr} (hx : PE X e0 (tE X.K pa (evE C a))) (h : PS X (.Assign [tg] e0 pos) (tAsg (tE X.K pa (evE C a)) (tG X.K pa (.tp is)))) : PS X (.Assign [tg] e0 pos) (tS X.K pa (evS C (.unp is a))) :=
  ps_imp h fun Dn σ H ⟨F, ρ, fl, ρ', R, e, q⟩ => by
    simp only [evS] at e
    obtain ⟨p, e1, e⟩ := Option.bind_eq_some_iff.mp e
    obtain ⟨z, e2, e⟩ := Option.bind_eq_some_iff.mp e
    obtain ⟨ds, e3, e⟩ := Option.bind_eq_some_iff.mp e
    obtain ⟨ρ2, e4, e⟩ := Option.map_eq_some_iff.mp e
    cases e
    refine ⟨F, ρ, p.1, p.2, R, e1, fun v F1 H1 R1 s1 w1 => ?_⟩
    obtain ⟨F2, R2, dv, s2, _⟩ := w1.frz R1 R s1 e2
    obtain ⟨d, ρ3⟩ := z
    refine ⟨F2, ρ3, d, _, R2, dv, ?_, fun σ' R3 o3 _ _ => q σ' F2 H1 R3 (s2.stp.less o3)⟩
    cases d <;> simp only [seqOf] at e3 <;> cases e3 <;> exact e4
theorem d_aug {i : Nat} {o : Op2} {nm : Str} {p : Pos} (hN : X.N.Nodup) (hi : X.N[i]? = some nm) (hx : Loc X.env.scope nm) (ho : o = .add ∨ o = .sub) (hf : X.fn nm = true ∨ X.env.scope.names.lookup nm = some .local)
    (he : PE X x (tE X.K pa (evE C a))) : PS X (.AugAssign (.Name nm p) (opN o) x pos) (tS X.K pa (evS C (.aug i o a))) := by
  rcases ho with rfl | rfl
  · refine ps_imp (ps_aug hN hi hx he ip_add hf) fun Dn σ H ⟨F, ρ, fl, ρ', R, e, q⟩ => ?_
    simp only [evS] at e
    split at e
    · rename_i n q0
      obtain ⟨v, h1, h2⟩ := R.sh i _ (at_some q0 nofun)
      cases h2
      obtain ⟨p, e1, e⟩ := Option.bind_eq_some_iff.mp e
      obtain ⟨d, e2, e⟩ := Option.bind_eq_some_iff.mp e
      refine ⟨_, h1, F, ρ, p.1, p.2, R, e1, fun v F1 H1 R1 s1 w1 => ?_⟩
      have cn := w1.cn R1 e2
      cases d <;> simp only at e <;> cases e
      cases cn
      obtain ⟨R2, o2⟩ := R1.put i (.int _)
      exact ⟨_, _, rfl, rfl, q _ F1 H1 R2 (s1.stp.less o2)⟩
    · cases e
  · refine ps_imp (ps_aug hN hi hx he ip_sub hf) fun Dn σ H ⟨F, ρ, fl, ρ', R, e, q⟩ => ?_
    simp only [evS] at e
    split at e
    · rename_i n q0
      obtain ⟨v, h1, h2⟩ := R.sh i _ (at_some q0 nofun)
      cases h2
      obtain ⟨p, e1, e⟩ := Option.bind_eq_some_iff.mp e
      obtain ⟨d, e2, e⟩ := Option.bind_eq_some_iff.mp e
      refine ⟨_, h1, F, ρ, p.1, p.2, R, e1, fun v F1 H1 R1 s1 w1 => ?_⟩
      have cn := w1.cn R1 e2
      cases d <;> simp only at e <;> cases e
      cases cn
      obtain ⟨R2, o2⟩ := R1.put i (.int _)
      exact ⟨_, _, rfl, rfl, q _ F1 H1 R2 (s1.stp.less o2)⟩
    · cases e
/-! blocks -/
theorem d_nil : PSs X [] (tS X.K pa (evSs C .nil)) := pss_imp pss_nil fun Dn σ H ⟨F, ρ, fl, ρ', R, e, q⟩ => by
  simp only [evSs] at e
  cases e
  exact q σ F H R .rfl'
theorem d_cons {st : Stmt} {rest : List Stmt} {s : S} {ss : Ss} (h1 : PS X st (tS X.K pa (evS C s))) (h2 : PSs X rest (tS X.K pa (evSs C ss))) : PSs X (st :: rest) (tS X.K pa (evSs C (.cons s ss))) :=
  pss_imp (pss_cons h1 h2) fun Dn σ H ⟨F, ρ, fl, ρ', R, e, q⟩ => by
    simp only [evSs] at e
    obtain ⟨p, e1, e2⟩ := Option.bind_eq_some_iff.mp e
    obtain ⟨f1, ρ1⟩ := p
    refine ⟨F, ρ, f1, ρ1, R, e1, ?_⟩
    cases f1 with
    | nx => exact fun σ' F' H' R' st => ⟨F', ρ1, fl, ρ', R', e2, q.from st⟩
    | rt b d =>
      cases e2
      exact fun v σ' F' H' R' st rt => q v σ' F' H' R' st rt
theorem d_wipe {sts : List Stmt} {is : List Nat} {ss : Ss} (h : PSs X sts (tS X.K pa (evSs C ss))) : PSs X sts (tS X.K pa (evSs C (.cons (.wipe is) ss))) :=
  pss_imp h fun Dn σ H ⟨F, ρ, fl, ρ', R, e, q⟩ => by
    simp only [evSs, evS, Option.bind_some] at e
    obtain ⟨R1, o1⟩ := R.wiped is (σ' := σ) rfl fun _ _ => rfl
    exact ⟨F, wipeE ρ is, fl, ρ', R1, e, q.from (Stp.rfl'.less o1)⟩
theorem d_if {p q : List Stmt} {s t : Ss} (hc : PT X x (tT X.K pa (evT C c))) (h1 : PSs X p (tS X.K pa (evSs C s))) (h2 : PSs X q (tS X.K pa (evSs C t))) : PS X (.If x p q pos) (tS X.K pa (evS C (.iff c s t))) :=
  ps_imp (ps_if hc h1 h2) fun Dn σ H ⟨F, ρ, fl, ρ', R, e, q⟩ => by
    simp only [evS] at e
    obtain ⟨w, e1, e2⟩ := Option.bind_eq_some_iff.mp e
    refine ⟨F, ρ, w.1, w.2, R, e1, fun F1 H1 R1 s1 => ?_⟩
    cases hw : w.1 with
    | true =>
      rw [hw] at e2
      simp only [if_true] at e2 ⊢
      exact ⟨F1, w.2, fl, ρ', R1, e2, q.from s1.stp⟩
    | false =>
      rw [hw] at e2
      simp only [Bool.false_eq_true, if_false] at e2 ⊢
      exact ⟨F1, w.2, fl, ρ', R1, e2, q.from s1.stp⟩
theorem d_ret (h : PE X x (tE X.K pa (evE C a))) : PS X (.Return (some x) pos) (tS X.K pa (evS C (.ret a))) :=
  ps_imp (ps_ret h) fun Dn σ H ⟨F, ρ, fl, ρ', R, e, q⟩ => by
    simp only [evS] at e
    obtain ⟨p, e1, e2⟩ := Option.bind_eq_some_iff.mp e
    obtain ⟨w, e3, e4⟩ := Option.map_eq_some_iff.mp e2
    cases e4
    refine ⟨F, ρ, p.1, p.2, R, e1, fun v F1 H1 R1 s1 w1 => q v σ F1 H1 R1 s1.stp ?_⟩
    cases hr : p.1 with
    | sh d =>
      rw [hr] at e3 w1
      cases e3
      exact w1
    | fr d =>
      rw [hr] at e3 w1
      cases e3
      obtain ⟨a', rfl, g1, g2, g3⟩ := w1
      exact ⟨a', rfl, g2, g3, .inl g1⟩
    | pk i =>
      rw [hr] at e3 w1
      have w1 : σ[i]? = some (some v) := w1
      simp only [retR] at e3
      split at e3
      · rename_i d q0
        cases e3
        obtain ⟨u, g1, g2⟩ := R1.sh i d (at_some q0 nofun)
        rw [w1] at g1
        cases g1
        exact g2
      · rename_i d q0
        cases e3
        obtain ⟨u, g1, g2, g3, g4⟩ := R1.ow i none d (at_some q0 nofun)
        rw [w1] at g1
        cases g1
        exact ⟨u, rfl, g2, g3, .inr ⟨i, at_some q0 nofun, w1⟩⟩
      · cases e3
theorem d_retN : PS X (.Return none pos) (tS X.K pa (evS C .retN)) := ps_imp ps_retN fun Dn σ H ⟨F, ρ, fl, ρ', R, e, q⟩ => by
  simp only [evS] at e
  cases e
  exact q .non σ F H R .rfl' .non
theorem d_for {tgx it : Expr} {body : List Stmt} {tg : Tg} {i : It} {ss : Ss} (hset : notSet it = true) (hp : PassesOwn (model X.prog X.w) X.A X.env X.xe) (hc : X.calm = true) (hi : PI X tgx it (tI X.K pa (evI C i))) (hg : PG X tgx (tG X.K pa tg)) (hb : PSs X body (tS X.K pa (evSs C ss))) :
    PS X (.For tgx it body [] pos) (tS X.K pa (evS C (.for tg i ss))) :=
  ps_imp (ps_for hp hc hi hg hb (fold_set hset)) fun Dn σ H ⟨F, ρ, fl, ρ', R, e, q⟩ => by
    simp only [evS] at e
    obtain ⟨p, e1, e2⟩ := Option.bind_eq_some_iff.mp e
    refine ⟨F, ρ, p.1, p.2, R, e1, fun J F1 H1 R1 s1 hl hY => ?_⟩
    refine ⟨fun n m σ2 H2 => m + n = p.1.length ∧ ∃ ρ2 F2, Rel X.K pa ρ2 σ2 F2 H2 ∧ Sub F1 F2 ∧ forGo (fun x ρ => (bindT tg x ρ).bind fun ρ1 => evSs C ss ρ1) (p.1.drop n) ρ2 = some (fl, ρ') ∧ EndOk X.K pa ρ2 σ2 F2 H2 Dn ρ' fl,
      ⟨p.1.length, rfl, p.2, F1, R1, Sub.rfl', e2, q.from s1.stp⟩, ?_⟩
    rintro n m σ2 H2 ⟨hm, ρ2, F2, R2, sb, ef, q2⟩
    obtain ⟨y1, y2⟩ := hY n F2 H2 sb R2.sub
    by_cases hn : n < p.1.length
    · obtain ⟨d, ed⟩ : ∃ d, p.1[n]? = some d := ⟨p.1[n], by simp [hn]⟩
      obtain ⟨g1, g2⟩ := y1 d ed
      rw [drop_cons ed] at ef
      simp only [forGo] at ef
      obtain ⟨w, ew, ef⟩ := Option.bind_eq_some_iff.mp ef
      obtain ⟨ρ3, eb, ew⟩ := Option.bind_eq_some_iff.mp ew
      refine .inr ⟨g1, fun σ' H' => ∃ m', m' < m ∧ (m' + (n + 1) = p.1.length ∧ ∃ ρ2 F2, Rel X.K pa ρ2 σ' F2 H' ∧ Sub F1 F2 ∧ forGo (fun x ρ => (bindT tg x ρ).bind fun ρ1 => evSs C ss ρ1) (p.1.drop (n + 1)) ρ2 = some (fl, ρ') ∧ EndOk X.K pa ρ2 σ' F2 H' Dn ρ' fl), fun σ' H' z => z, fun x H' yx => ?_⟩
      obtain ⟨F', R', dx, s'⟩ := blk_turn (ρw := ρ2) (F1 := F1) (H1 := H1) R2 (g2 x H' yx)
      refine ⟨F', ρ2, d, ρ3, R', dx, eb, fun σ3 R3 o3 _ _ => ⟨F', ρ3, w.1, w.2, R3, ew, ?_⟩⟩
      have st0 : Stp (Own ρ2 σ2) F2 H2 (Own ρ3 σ3) F' H' := s'.stp.less o3
      obtain ⟨f1, ρ4⟩ := w
      cases f1 with
      | nx =>
        intro σ4 F4 H4 R4 st4
        exact ⟨m - 1, by omega, by omega, ρ4, F4, R4, (sb.trans st0.mono).trans st4.mono, ef, q2.from (st0.trans st4)⟩
      | rt b d2 =>
        cases ef
        exact fun v σ4 F4 H4 R4 st4 rt => (q2.from st0) v σ4 F4 H4 R4 st4 rt
    · have hn2 : n = p.1.length := by omega
      subst hn2
      rw [List.drop_length] at ef
      cases ef
      exact .inl ⟨y2 (Nat.le_refl _), q2 σ2 F2 H2 R2 .rfl'⟩
theorem d_whl {body : List Stmt} {ss : Ss} (hp : PassesOwn (model X.prog X.w) X.A X.env X.xe) (hc : PT X x (tT X.K pa (evT C c))) (hb : PSs X body (tS X.K pa (evSs C ss))) : PS X (.While x body [] pos) (tS X.K pa (evS C (.whl c ss))) :=
  ps_imp (ps_while hp hc hb) fun Dn σ H ⟨F, ρ, fl, ρ', R, e, q⟩ => by
    simp only [evS] at e
    refine ⟨fun m σ2 H2 => ∃ ρ2 F2, Rel X.K pa ρ2 σ2 F2 H2 ∧ whlGo (evT C c) (evSs C ss) m ρ2 = some (fl, ρ') ∧ EndOk X.K pa ρ2 σ2 F2 H2 Dn ρ' fl, ⟨C.fuel, ρ, F, R, e, q⟩, ?_⟩
    rintro m σ2 H2 ⟨ρ2, F2, R2, ew, q2⟩
    cases m with
    | zero => cases ew
    | succ m =>
      simp only [whlGo] at ew
      obtain ⟨t, et, ew⟩ := Option.bind_eq_some_iff.mp ew
      refine ⟨F2, ρ2, t.1, t.2, R2, et, fun F3 H3 R3 s3 => ?_⟩
      cases ht : t.1 with
      | false =>
        rw [ht] at ew
        simp only [Bool.false_eq_true, if_false] at ew ⊢
        cases ew
        exact q2 σ2 F3 H3 R3 s3.stp
      | true =>
        rw [ht] at ew
        simp only [if_true] at ew ⊢
        obtain ⟨w, eb, ew⟩ := Option.bind_eq_some_iff.mp ew
        refine ⟨fun σ' H' => ∃ m', m' < m + 1 ∧ ∃ ρ2 F2, Rel X.K pa ρ2 σ' F2 H' ∧ whlGo (evT C c) (evSs C ss) m' ρ2 = some (fl, ρ') ∧ EndOk X.K pa ρ2 σ' F2 H' Dn ρ' fl, fun σ' H' z => z, F3, t.2, w.1, w.2, R3, eb, ?_⟩
        obtain ⟨f1, ρ4⟩ := w
        cases f1 with
        | nx => exact fun σ4 F4 H4 R4 st4 => ⟨m, by omega, ρ4, F4, R4, ew, q2.from (s3.stp.trans st4)⟩
        | rt b d2 =>
          cases ew
          exact fun v σ4 F4 H4 R4 st4 rt => (q2.from s3.stp) v σ4 F4 H4 R4 st4 rt
end
end PI

set_option Elab.async false
set_option linter.all false
set_option maxRecDepth 100000
set_option maxHeartbeats 4000000
/-! PIs: whether a text of Python is written by a text of mine. -/
namespace PI
set_option autoImplicit false
open PySem PySem.Spec PySem.W L2
open PyProof.Rows hiding St

/-! views of the Python text -/
def vName : Expr → Option (Str × Pos) | .Name x p => some (x, p) | _ => none
def vConst : Expr → Option Const | .Constant c _ _ => some c | _ => none
def vTup : Expr → Option (List Expr) | .Tuple es _ _ => some es | _ => none
def vLst : Expr → Option (List Expr) | .List es _ => some es | _ => none
def vDic : Expr → Option (List (Option Expr) × List Expr) | .Dict ks vs _ => some (ks, vs) | _ => none
def vBin : Expr → Option (Expr × Operator × Expr) | .BinOp a o b _ => some (a, o, b) | _ => none
def vUn : Expr → Option (UnaryOp × Expr) | .UnaryOp o a _ => some (o, a) | _ => none
def vCmp : Expr → Option (Expr × List CmpOp × List Expr) | .Compare a os bs _ => some (a, os, bs) | _ => none
def vBool : Expr → Option (BoolOp × List Expr × Pos) | .BoolOp o vs p => some (o, vs, p) | _ => none
def vIf : Expr → Option (Expr × Expr × Expr) | .IfExp c a b _ => some (c, a, b) | _ => none
def vCall : Expr → Option (Str × List Expr) | .Call (.Name x _) es [] _ => some (x, es) | _ => none
def vMeth : Expr → Option (Expr × Str × List Expr × Bool) | .Call (.Attribute o m ap) es [] p => some (o, m, es, ap.endLine == p.line) | _ => none
def vSub : Expr → Option (Expr × Expr) | .Subscript a b _ => some (a, b) | _ => none
def vSli : Expr → Option (Option Expr × Option Expr) | .Slice l h none _ => some (l, h) | _ => none
def vRev : Expr → Bool | .Slice none none (some (.UnaryOp .USub (.Constant (.int i) _ _) _)) _ => decide (i = 1) | _ => false
def vLC : Expr → Option (Expr × Expr × Expr × List Expr × Scope) | .ListComp e [⟨t, i, f, n⟩] s _ => if n = 0 then some (e, t, i, f, s) else none | _ => none
def vDC : Expr → Option (Expr × Expr × Expr × Expr × List Expr × Scope) | .DictComp k v [⟨t, i, f, n⟩] s _ => if n = 0 then some (k, v, t, i, f, s) else none | _ => none
theorem vName_eq {e : Expr} {x : Str} {p : Pos} (h : vName e = some (x, p)) : e = .Name x p := by cases e <;> cases h; rfl
theorem vConst_eq {e : Expr} {c : Const} (h : vConst e = some c) : ∃ k p, e = .Constant c k p := by cases e <;> cases h; exact ⟨_, _, rfl⟩
theorem vTup_eq {e : Expr} {c : List Expr} (h : vTup e = some c) : ∃ k p, e = .Tuple c k p := by cases e <;> cases h; exact ⟨_, _, rfl⟩
theorem vLst_eq {e : Expr} {c : List Expr} (h : vLst e = some c) : ∃ p, e = .List c p := by cases e <;> cases h; exact ⟨_, rfl⟩
theorem vDic_eq {e : Expr} {ks : List (Option Expr)} {vs : List Expr} (h : vDic e = some (ks, vs)) : ∃ p, e = .Dict ks vs p := by cases e <;> cases h; exact ⟨_, rfl⟩
theorem vBin_eq {e a b : Expr} {o : Operator} (h : vBin e = some (a, o, b)) : ∃ p, e = .BinOp a o b p := by cases e <;> cases h; exact ⟨_, rfl⟩
theorem vUn_eq {e a : Expr} {o : UnaryOp} (h : vUn e = some (o, a)) : ∃ p, e = .UnaryOp o a p := by cases e <;> cases h; exact ⟨_, rfl⟩
theorem vCmp_eq {e a : Expr} {os : List CmpOp} {bs : List Expr} (h : vCmp e = some (a, os, bs)) : ∃ p, e = .Compare a os bs p := by cases e <;> cases h; exact ⟨_, rfl⟩
theorem vBool_eq {e : Expr} {o : BoolOp} {vs : List Expr} {p : Pos} (h : vBool e = some (o, vs, p)) : e = .BoolOp o vs p := by cases e <;> cases h; rfl
theorem vIf_eq {e a b c : Expr} (h : vIf e = some (c, a, b)) : ∃ p, e = .IfExp c a b p := by cases e <;> cases h; exact ⟨_, rfl⟩
theorem vCall_eq {e : Expr} {x : Str} {es : List Expr} (h : vCall e = some (x, es)) : ∃ p q, e = .Call (.Name x p) es [] q := by
  unfold vCall at h
  split at h <;> cases h
  exact ⟨_, _, rfl⟩
theorem vMeth_eq {e o : Expr} {m : Str} {es : List Expr} {b : Bool} (h : vMeth e = some (o, m, es, b)) : ∃ ap q, e = .Call (.Attribute o m ap) es [] q ∧ b = (ap.endLine == q.line) := by
  unfold vMeth at h
  split at h <;> cases h
  exact ⟨_, _, rfl, rfl⟩
theorem vSub_eq {e a b : Expr} (h : vSub e = some (a, b)) : ∃ p, e = .Subscript a b p := by cases e <;> cases h; exact ⟨_, rfl⟩
theorem vSli_eq {e : Expr} {a b : Option Expr} (h : vSli e = some (a, b)) : ∃ p, e = .Slice a b none p := by
  unfold vSli at h
  split at h <;> cases h
  exact ⟨_, rfl⟩
theorem vRev_eq {e : Expr} (h : vRev e = true) : ∃ k p1 p2 p3, e = .Slice none none (some (.UnaryOp .USub (.Constant (.int 1) k p1) p2)) p3 := by
  unfold vRev at h
  split at h
  · rw [decide_eq_true_eq] at h
    subst h
    exact ⟨_, _, _, _, rfl⟩
  · cases h
theorem vLC_eq {e a t i : Expr} {f : List Expr} {s : Scope} (h : vLC e = some (a, t, i, f, s)) : ∃ p, e = .ListComp a [⟨t, i, f, 0⟩] s p := by
  unfold vLC at h
  split at h
  · split at h
    · rename_i z
      subst z
      cases h
      exact ⟨_, rfl⟩
    · cases h
  · cases h
theorem vDC_eq {e k v t i : Expr} {f : List Expr} {s : Scope} (h : vDC e = some (k, v, t, i, f, s)) : ∃ p, e = .DictComp k v [⟨t, i, f, 0⟩] s p := by
  unfold vDC at h
  split at h
  · split at h
    · rename_i z
      subst z
      cases h
      exact ⟨_, rfl⟩
    · cases h
  · cases h
def vAsg : Stmt → Option (Expr × Expr × Pos) | .Assign [t] e p => some (t, e, p) | _ => none
def vExpr : Stmt → Option Expr | .Expr e _ => some e | _ => none
def vAug : Stmt → Option (Expr × Operator × Expr) | .AugAssign t o e _ => some (t, o, e) | _ => none
def vIfS : Stmt → Option (Expr × List Stmt × List Stmt) | .If c a b _ => some (c, a, b) | _ => none
def vFor : Stmt → Option (Expr × Expr × List Stmt) | .For t i b [] _ => some (t, i, b) | _ => none
def vWhl : Stmt → Option (Expr × List Stmt) | .While c b [] _ => some (c, b) | _ => none
def vRet : Stmt → Option (Option Expr) | .Return e _ => some e | _ => none
def vPass : Stmt → Bool | .Pass _ => true | _ => false
theorem vAsg_eq {st : Stmt} {t e : Expr} {p : Pos} (h : vAsg st = some (t, e, p)) : st = .Assign [t] e p := by
  unfold vAsg at h
  split at h <;> cases h
  rfl
theorem vExpr_eq {st : Stmt} {e : Expr} (h : vExpr st = some e) : ∃ p, st = .Expr e p := by cases st <;> cases h; exact ⟨_, rfl⟩
theorem vAug_eq {st : Stmt} {t e : Expr} {o : Operator} (h : vAug st = some (t, o, e)) : ∃ p, st = .AugAssign t o e p := by cases st <;> cases h; exact ⟨_, rfl⟩
theorem vIfS_eq {st : Stmt} {c : Expr} {a b : List Stmt} (h : vIfS st = some (c, a, b)) : ∃ p, st = .If c a b p := by cases st <;> cases h; exact ⟨_, rfl⟩
theorem vFor_eq {st : Stmt} {t i : Expr} {b : List Stmt} (h : vFor st = some (t, i, b)) : ∃ p, st = .For t i b [] p := by
  unfold vFor at h
  split at h <;> cases h
  exact ⟨_, rfl⟩
theorem vWhl_eq {st : Stmt} {c : Expr} {b : List Stmt} (h : vWhl st = some (c, b)) : ∃ p, st = .While c b [] p := by
  unfold vWhl at h
  split at h <;> cases h
  exact ⟨_, rfl⟩
theorem vRet_eq {st : Stmt} {e : Option Expr} (h : vRet st = some e) : ∃ p, st = .Return e p := by cases st <;> cases h; exact ⟨_, rfl⟩
theorem vPass_eq {st : Stmt} (h : vPass st = true) : ∃ p, st = .Pass p := by cases st <;> cases h; exact ⟨_, rfl⟩

/-- what a text is compared by: the slots' names, the defs' names, the constants -/
structure MC where
  N : List Str
  FT : List Str
  GC : List (Str × D)
def visB (sc : Scope) (x : Str) : Bool := match sc.names.lookup x with | some .local => true | some .cell => true | some .free => true | _ => false
def glB (sc : Scope) (x : Str) : Bool := decide (sc.names.lookup x = some .globalImplicit)
def locB (sc : Scope) (fnb : Str → Bool) (x : Str) : Bool := match sc.names.lookup x with | some .local => true | some .cell => fnb x | _ => false
def okN (x : Str) : Bool := !(x == ("__debug__" : Str)) && !(x == ("__classdict__" : Str))
def eqS : D → D → Bool
  | .none, .none => true
  | .bool a, .bool b => decide (a = b)
  | .int a, .int b => decide (a = b)
  | .str a, .str b => decide (a = b)
  | _, _ => false
theorem eqS_eq {a b : D} (h : eqS a b = true) : a = b := by
  cases a <;> cases b <;> simp [eqS] at h <;> first | rfl | (subst h; rfl)
def conD : Const → Option D
  | .none => some .none | .bool b => some (.bool b) | .int i => some (.int i) | .str s => some (.str s) | _ => none
def eqO : Option D → D → Bool
  | some a, b => eqS a b
  | none, _ => false
def slotB (M : MC) (sc : Scope) (i : Nat) (x : Str) : Bool := decide (M.N[i]? = some x) && visB sc x && okN x
def tgtB (M : MC) (sc : Scope) (fnb : Str → Bool) (i : Nat) (x : Str) : Bool := decide (M.N[i]? = some x) && locB sc fnb x
def biN : Bi → Str
  | .len => "len" | .sum => "sum" | .mn => "min" | .mx => "max" | .mn2 => "min" | .mx2 => "max" | .srt => "sorted" | .tup => "tuple" | .lst => "list" | .dic => "dict"
  | .abs => "abs" | .int => "int" | .any => "any" | .all => "all" | .isi _ => "isinstance"
def tyP : Ty → Str
  | .int => "int" | .bool => "bool" | .str => "str" | .list => "list" | .tuple => "tuple" | .dict => "dict"
def bltNames : List Str := ["len", "sum", "min", "max", "sorted", "tuple", "list", "dict", "abs", "int", "any", "all", "isinstance", "range", "zip", "enumerate", "bool", "str"]
def muN : Mu → Str
  | .append => "append" | .extend => "extend" | .pop => "pop" | .popAt => "pop" | .update => "update"
def tysOf : Bi → Option (List Ty)
  | .isi ts => some ts
  | _ => none
def mTys (sc : Scope) : List Ty → List Expr → Bool
  | [], [] => true
  | t :: ts, e :: es => (match vName e with | some (x, _) => decide (x = tyP t) && glB sc x | none => false) && mTys sc ts es
  | _, _ => false
def mNms (M : MC) (sc : Scope) (fnb : Str → Bool) : List Nat → List Expr → Bool
  | [], [] => true
  | i :: is, e :: es => (match vName e with | some (x, _) => tgtB M sc fnb i x | none => false) && mNms M sc fnb is es
  | _, _ => false
def mTg (M : MC) (sc : Scope) (fnb : Str → Bool) : Tg → Expr → Bool
  | .nm i, e => (match vName e with | some (x, _) => tgtB M sc fnb i x | none => false)
  | .tp is, e => (match vTup e with | some es => mNms M sc fnb is es | none => false)
def ownOf (N : List Str) (tg : Tg) : List (Str × Nat) := tg.slots.filterMap fun i => (N[i]?).map fun x => (x, i)
def fnbOf (s : Scope) : Str → Bool := fun x => s.names.lookup x == some .cell
def isNo : E → Bool | .no => true | _ => false
def isTupE : Expr → Bool | .Tuple _ _ _ => true | _ => false
def plainT : Expr → Bool | .UnaryOp .Not _ _ => false | .BoolOp _ _ _ => false | .IfExp _ _ _ _ => false | .Compare _ _ _ _ => false | _ => true
def cmpB (o : Cm) (os : List CmpOp) : Bool := decide (os = [cmN o])
mutual
def mE (M : MC) (sc : Scope) (fnb : Str → Bool) : E → Expr → Bool
  | .v i, pe => (match vName pe with | some (x, _) => slotB M sc i x | none => false)
  | .con d, pe => (match vConst pe with | some c => eqO (conD c) d | none => false)
  | .glo y d, pe => (match vName pe with | some (x, _) => decide (x = y) && glB sc x && eqO (M.GC.lookup x) d && okN x | none => false)
  | .no, _ => false
  | .bad, _ => true
  | .tup es, pe => (match vTup pe with | some xs => decide (xs.length ≤ 1000) && mEs M sc fnb es xs | none => false)
  | .lst es, pe => (match vLst pe with | some xs => decide (xs.length ≤ 1000) && mEs M sc fnb es xs | none => false)
  | .dnk, pe => (match vDic pe with | some ([], []) => true | _ => false)
  | .dnt, _ => false
  | .dic _ _, _ => false
  | .op2 o a b, pe => (match vBin pe with | some (x, p, y) => decide (p = opN o) && mE M sc fnb a x && mE M sc fnb b y | none => false)
  | .neg a, pe => (match vUn pe with | some (o, x) => decide (o = .USub) && mE M sc fnb a x | none => false)
  | .cmp o a b, pe => (match vCmp pe with | some (x, [p], [y]) => decide (p = cmN o) && !behindInMarks p y && mE M sc fnb a x && mE M sc fnb b y | _ => false)
  | .cmp2 o o' a b c, pe => (match vCmp pe with | some (x, [p, p'], [y, z]) => decide (p = cmN o) && decide (p' = cmN o') && !lastMarks [p, p'] [y, z] && mE M sc fnb a x && mE M sc fnb b y && mE M sc fnb c z | _ => false)
  | .and a b, pe => (match vBool pe with | some (.And, x :: y :: [], _) => mE M sc fnb a x && mE M sc fnb b y | some (.And, x :: y :: z :: r, p) => mE M sc fnb a x && mE M sc fnb b (.BoolOp .And (y :: z :: r) p) | _ => false)
  | .or a b, pe => (match vBool pe with | some (.Or, x :: y :: [], _) => mE M sc fnb a x && mE M sc fnb b y | some (.Or, x :: y :: z :: r, p) => mE M sc fnb a x && mE M sc fnb b (.BoolOp .Or (y :: z :: r) p) | _ => false)
  | .not a, pe => (match vUn pe with | some (o, x) => decide (o = .Not) && mE M sc fnb a x | none => false)
  | .ite c a b, pe => (match vIf pe with | some (z, x, y) => mT M sc fnb c z && mE M sc fnb a x && mE M sc fnb b y | none => false)
  | .bi f es, pe => (match vCall pe with
    | some (x, xs) => decide (x = biN f) && glB sc x && (match tysOf f, xs with
      | some [t], [y, z] => notStar y && mEs M sc fnb es [y] && (match vTup z with | some zs => mTys sc [t] zs | none => mTys sc [t] [z])
      | some ts, [y, z] => notStar y && mEs M sc fnb es [y] && decide (ts.length ≤ 100) && (match vTup z with | some zs => mTys sc ts zs | none => false)
      | none, y :: ys => mEs M sc fnb es (y :: ys)
      | _, _ => false)
    | none => false)
  | .lrng it, pe => (match vCall pe with | some (x, [r]) => decide (x = "list") && glB sc x && (match it with | .rng1 _ => true | _ => false) && mI M sc fnb it r r | _ => false)
  | .me _ _ _, _ => false
  | .mu m i es, pe => (match vMeth pe with
    | some (o, nm, xs, ln) => ln && decide (nm = muN m) && (match vName o with | some (x, _) => slotB M sc i x | none => false) && decide (xs.length < 20) && mEs M sc fnb es xs && (match m with | .pop => xs.isEmpty | _ => !xs.isEmpty)
    | none => false)
  | .call f as, pe => (match vCall pe with | some (x, xs) => decide (M.FT[f]? = some x) && glB sc x && okN x && mAs M sc fnb as xs | none => false)
  | .ix a i, pe => (match vSub pe with | some (x, y) => notSlice y && mE M sc fnb a x && mE M sc fnb i y | none => false)
  | .sl a lo hi, pe => (match vSub pe with
    | some (x, y) => mE M sc fnb a x && (match vSli y with
      | some (l, h) => (match l with | none => isNo lo | some l' => mE M sc fnb lo l') && (match h with | none => isNo hi | some h' => mE M sc fnb hi h')
      | none => false)
    | none => false)
  | .rev a, pe => (match vSub pe with | some (x, y) => vRev y && mE M sc fnb a x | none => false)
  | .comp elt tg it ifs, pe => (match vLC pe with
    | some (ex, tx, ix, fx, s) => blkC M.N sc s (ownOf M.N tg) && decide ((ownOf M.N tg).map (·.2) = tg.slots) && notSet ix && mTg M (relS s sc) (fnbOf s) tg tx && mI M sc fnb it ix tx && mF M (relS s sc) (fnbOf s) ifs fx && mE M (relS s sc) (fnbOf s) elt ex
    | none => false)
  | .dcomp k v tg it ifs, pe => (match vDC pe with
    | some (kx, vx, tx, ix, fx, s) => blkC M.N sc s (ownOf M.N tg) && decide ((ownOf M.N tg).map (·.2) = tg.slots) && notSet ix && mTg M (relS s sc) (fnbOf s) tg tx && mI M sc fnb it ix tx && mF M (relS s sc) (fnbOf s) ifs fx && mE M (relS s sc) (fnbOf s) k kx && mE M (relS s sc) (fnbOf s) v vx
    | none => false)
/-- as a test -/
def mT (M : MC) (sc : Scope) (fnb : Str → Bool) : E → Expr → Bool
  | .not a, pe => (match vUn pe with | some (o, x) => decide (o = .Not) && mT M sc fnb a x | none => false)
  | .and a b, pe => (match vBool pe with | some (.And, x :: y :: [], _) => mT M sc fnb a x && mT M sc fnb b y | some (.And, x :: y :: z :: r, p) => mT M sc fnb a x && mT M sc fnb b (.BoolOp .And (y :: z :: r) p) | _ => false)
  | .or a b, pe => (match vBool pe with | some (.Or, x :: y :: [], _) => mT M sc fnb a x && mT M sc fnb b y | some (.Or, x :: y :: z :: r, p) => mT M sc fnb a x && mT M sc fnb b (.BoolOp .Or (y :: z :: r) p) | _ => false)
  | .cmp o a b, pe => (match vCmp pe with | some (x, [p], [y]) => decide (p = cmN o) && !behindInMarks p y && mE M sc fnb a x && mE M sc fnb b y | _ => false)
  | .cmp2 o o' a b c, pe => (match vCmp pe with | some (x, [p, p'], [y, z]) => decide (p = cmN o) && decide (p' = cmN o') && !lastMarks [p, p'] [y, z] && mE M sc fnb a x && mE M sc fnb b y && mE M sc fnb c z | _ => false)
  | .bad, _ => true
  | .v i, pe => (match vName pe with | some (x, _) => slotB M sc i x | none => false)
  | .bi f es, pe => (match vCall pe with
    | some (x, xs) => decide (x = biN f) && glB sc x && (match tysOf f, xs with
      | some [t], [y, z] => notStar y && mEs M sc fnb es [y] && (match vTup z with | some zs => mTys sc [t] zs | none => mTys sc [t] [z])
      | some ts, [y, z] => notStar y && mEs M sc fnb es [y] && decide (ts.length ≤ 100) && (match vTup z with | some zs => mTys sc ts zs | none => false)
      | none, y :: ys => mEs M sc fnb es (y :: ys)
      | _, _ => false)
    | none => false)
  | .call f as, pe => (match vCall pe with | some (x, xs) => decide (M.FT[f]? = some x) && glB sc x && okN x && mAs M sc fnb as xs | none => false)
  | .ix a i, pe => (match vSub pe with | some (x, y) => notSlice y && mE M sc fnb a x && mE M sc fnb i y | none => false)
  | _, _ => false
def mEs (M : MC) (sc : Scope) (fnb : Str → Bool) : Es → List Expr → Bool
  | .nil, xs => xs.isEmpty
  | .cons e es, xs => (match xs with | x :: r => notStar x && mE M sc fnb e x && mEs M sc fnb es r | [] => false)
def mF (M : MC) (sc : Scope) (fnb : Str → Bool) : Es → List Expr → Bool
  | .nil, xs => xs.isEmpty
  | .cons e _, xs => (match xs with | [x] => mT M sc fnb e x | _ => false)
def mAs (M : MC) (sc : Scope) (fnb : Str → Bool) : As → List Expr → Bool
  | .nil, xs => xs.isEmpty
  | .val e as, xs => (match xs with | x :: r => notStar x && mE M sc fnb e x && mAs M sc fnb as r | [] => false)
  | .io i as, xs => (match xs with | x :: r => (match vName x with | some (nm, _) => slotB M sc i nm | none => false) && mAs M sc fnb as r | [] => false)
def mI (M : MC) (sc : Scope) (fnb : Str → Bool) : It → Expr → Expr → Bool
  | .seq e, x, _ => mE M sc fnb e x
  | .rng1 a, x, _ => (match vCall x with | some (nm, [y]) => decide (nm = "range") && glB sc nm && notStar y && mE M sc fnb a y | _ => false)
  | .rng2 a b, x, _ => (match vCall x with | some (nm, [y, z]) => decide (nm = "range") && glB sc nm && notStar y && notStar z && mE M sc fnb a y && mE M sc fnb b z | _ => false)
  | .zip a b, x, t => isTupE t && (match vCall x with | some (nm, [y, z]) => decide (nm = "zip") && glB sc nm && notStar y && notStar z && mE M sc fnb a y && mE M sc fnb b z | _ => false)
  | .enm a, x, t => isTupE t && (match vCall x with | some (nm, [y]) => decide (nm = "enumerate") && glB sc nm && notStar y && mE M sc fnb a y | _ => false)
end
def tsNames : Ts → Option (List Nat)
  | .nil => some []
  | .cons (.nm i) ts => (tsNames ts).map (i :: ·)
  | .cons _ _ => none
def isWipe : S → Bool | .wipe _ => true | _ => false
def wipeOf : S → List Nat | .wipe is => is | _ => []
def isComp : Expr → Bool | .ListComp _ _ _ _ => true | .SetComp _ _ _ _ => true | .DictComp _ _ _ _ _ => true | _ => false
def isCallE : Expr → Bool | .Call _ _ _ _ => true | _ => false
/-- name = [..] on one line -/
def swB (sc : Scope) (nm : Str) (np : Pos) : Expr → Bool
  | .ListComp _ _ s p => decide (sc.names.lookup nm = some .local) && (np.line == p.line) && !(s.names.any fun (n, k) => n == nm && (k == .local || k == .cell))
  | .DictComp _ _ _ s p => decide (sc.names.lookup nm = some .local) && (np.line == p.line) && !(s.names.any fun (n, k) => n == nm && (k == .local || k == .cell))
  | _ => false
/-- several names at once: the stores' rule -/
def namesL (sc : Scope) (ln : Nat) : List Expr → Bool
  | [] => true
  | e :: es => (match vName e with | some (x, p) => decide (sc.names.lookup x = some .local) && (p.line == ln) | none => false) && namesL sc ln es
def slotsL (M : MC) : List Nat → List Expr → Bool
  | [], [] => true
  | i :: is, e :: es => (match vName e with | some (x, _) => decide (M.N[i]? = some x) | none => false) && slotsL M is es
  | _, _ => false
def hasCell (sc : Scope) : List Expr → Bool
  | [] => false
  | e :: es => (match vName e with | some (x, _) => decide (sc.names.lookup x = some .cell) | none => false) || hasCell sc es
def headLine : List Expr → Nat
  | e :: _ => e.pos.line
  | [] => 0
mutual
def mS (M : MC) (sc : Scope) (fnb : Str → Bool) : S → Stmt → Bool
  | .expr e, st => (match vExpr st with | some x => isCallE x && mE M sc fnb e x | none => false)
  | .set t e, st => (match vAsg st with
    | some (tx, x, p) => mE M sc fnb e x && (match t with
      | .nm i => (match vName tx with | some (nm, np) => tgtB M sc fnb i nm && (!isComp x || swB sc nm np x || decide (sc.names.lookup nm = some .cell)) | none => false)
      | .ix i k => (match vSub tx with | some (o, y) => notSlice y && (match vName o with | some (nm, _) => slotB M sc i nm | none => false) && mE M sc fnb k y | none => false))
    | none => false)
  | .par ts es, st => (match vAsg st with
    | some (tx, x, p) => (match vTup tx, vTup x, tsNames ts with
      | some tsx, some xs, some is => mEs M sc fnb es xs && decide (xs.length ≤ 1000) && mNms M sc fnb is tsx && hasCell sc tsx || mEs M sc fnb es xs && namesL sc (headLine tsx) tsx && slotsL M is tsx && decide is.Nodup && (decide (tsx.length = 2) || decide (tsx.length = 3)) && decide (xs.length = tsx.length) && !(xs.all (foldedForSure 8)) && !(xs.all (constantsAlone 8))
      | _, _, _ => false)
    | none => false)
  | .unp is e, st => (match vAsg st with
    | some (tx, x, p) => (match vTup tx with | some tsx => mNms M sc fnb is tsx && !isTupE x && !isComp x && mE M sc fnb e x | none => false)
    | none => false)
  | .aug i o e, st => (match vAug st with | some (t, p, x) => (match vName t with | some (nm, _) => tgtB M sc fnb i nm | none => false) && decide (p = opN o) && (decide (o = .add) || decide (o = .sub)) && mE M sc fnb e x | none => false)
  | .iff c a b, st => (match vIfS st with | some (x, p, q) => mT M sc fnb c x && mSs M sc fnb a p && mSs M sc fnb b q | none => false)
  | .for tg it ss, st => (match vFor st with | some (tx, ix, b) => notSet ix && mTg M sc fnb tg tx && mI M sc fnb it ix tx && mSs M sc fnb ss b | none => false)
  | .whl c ss, st => (match vWhl st with | some (x, b) => mT M sc fnb c x && mSs M sc fnb ss b | none => false)
  | .ret e, st => (match vRet st with | some (some x) => mE M sc fnb e x | _ => false)
  | .retN, st => (match vRet st with | some none => true | _ => false)
  | .pass, st => vPass st
  | .bad, _ => true
  | .wipe _, _ => false
def mSs (M : MC) (sc : Scope) (fnb : Str → Bool) : Ss → List Stmt → Bool
  | .nil, sts => sts.isEmpty
  | .cons s ss, sts => if isWipe s = true then mSs M sc fnb ss sts else (match sts with | st :: r => mS M sc fnb s st && mSs M sc fnb ss r | [] => false)
end
end PI

set_option Elab.async false
set_option linter.all false
set_option maxRecDepth 100000
set_option maxHeartbeats 4000000
/-! PIt: a text of Python that is written by a text of mine does as mine does. -/
namespace PI
set_option autoImplicit false
open PySem PySem.Spec PySem.W L2
open PyProof.Rows hiding St

structure XOk (M : MC) (C : Ctx) (sc : Scope) (fnb : Str → Bool) (X : Cx) : Prop where
  N : X.N = M.N
  nd : M.N.Nodup
  calm : X.calm = true
  hu : X.A.units + 64 < cLine
  sc : X.env.scope = sc
  fn : ∀ x, fnb x = true → X.fn x = true
  blt : ∀ x ∈ bltNames, X.mg x = none
  con : ∀ x d, M.GC.lookup x = some d → ∃ v u, X.mg x = some u ∧ RelV v u ∧ ∀ F, DP X.K F v d
  call : ∀ f nm, M.FT[f]? = some nm → ∃ k fa fd ps, FnOk X.prog X.w X.K X.mg X.base CX0 k fa fd ps (spI X.K (C.cal f)) ∧ Room k X.A ∧ X.mg nm = some (.ref fa) ∧ PySem.W.keepIn X.K (.ref fa) = true ∧ Binds X.K fd ps []
section
variable {M : MC} {C : Ctx} {pa : List Addr} {sc : Scope} {fnb : Str → Bool} {X : Cx}
theorem XOk.blk (x : XOk M C sc fnb X) (st : Shared) (H : Hp) (s : Scope) (cl : List (Str × Addr)) (Ce : Addr) (fp : List Addr) : XOk M C (relS s sc) (fnbOf s) (X.blk st H s (compEnvC s cl Ce X.env) fp) :=
  ⟨x.N, x.nd, x.calm, x.hu, by rw [← x.sc]; rfl, fun y h => h, x.blt, x.con, x.call⟩
theorem XOk.ndX (x : XOk M C sc fnb X) : X.N.Nodup := x.N ▸ x.nd
theorem XOk.slot (x : XOk M C sc fnb X) {i : Nat} {nm : Str} (h : slotB M sc i nm = true) : X.N[i]? = some nm ∧ Vis X.env.scope nm ∧ (nm == ("__debug__" : Str)) = false ∧ (nm == ("__classdict__" : Str)) = false := by
  simp only [slotB, okN, Bool.and_eq_true, decide_eq_true_eq, Bool.not_eq_true'] at h
  obtain ⟨⟨h1, h2⟩, h3, h4⟩ := h
  refine ⟨by rw [x.N]; exact h1, ?_, h3, h4⟩
  rw [x.sc]
  unfold visB at h2
  unfold Vis
  split at h2
  · exact .inl ‹_›
  · exact .inr (.inl ‹_›)
  · exact .inr (.inr ‹_›)
  · cases h2
theorem XOk.tgt (x : XOk M C sc fnb X) {i : Nat} {nm : Str} (h : tgtB M sc fnb i nm = true) : NmOk X i nm := by
  simp only [tgtB, Bool.and_eq_true, decide_eq_true_eq] at h
  obtain ⟨h1, h2⟩ := h
  refine ⟨by rw [x.N]; exact h1, ?_⟩
  rw [x.sc]
  unfold locB at h2
  unfold L2.Loc
  split at h2
  · exact ⟨.inl ‹_›, .inr ‹_›⟩
  · exact ⟨.inr ‹_›, .inl (x.fn nm h2)⟩
  · cases h2
theorem XOk.gl (x : XOk M C sc fnb X) {nm : Str} (h : glB sc nm = true) : Gl X nm := by
  show X.env.scope.names.lookup nm = _
  rw [x.sc]
  simpa [glB] using h
theorem XOk.pv (x : XOk M C sc fnb X) {i : Nat} {nm : Str} {p : Pos} (h : slotB M sc i nm = true) : PE X (.Name nm p) (tVar i) :=
  let ⟨h1, h2, h3, h4⟩ := x.slot h
  pe_var h1 h2 h3 h4
theorem bi_mem (f : Bi) : biN f ∈ bltNames := by cases f <;> simp [biN, bltNames]
theorem bi_boot (f : Bi) (hf : ∀ ts, f ≠ .isi ts) : bootBuiltins (biN f) = some (biV f) := by
  cases f <;> first | (exact absurd rfl (hf _)) | decide +kernel
theorem bi_nm (f : Bi) : biN f ≠ "__name__" ∧ (biN f == ("__debug__" : Str)) = false := by cases f <;> simp only [biN] <;> exact ⟨by decide, by decide⟩
theorem biV_or (f : Bi) : ∃ n, biV f = .builtin n ∨ biV f = .type n := by
  cases f <;> first | exact ⟨_, .inl rfl⟩ | exact ⟨_, .inr rfl⟩
theorem ty_boot (t : Ty) : bootBuiltins (tyP t) = some (.type (tyN t)) ∧ tyP t ≠ "__name__" ∧ (tyP t == ("__debug__" : Str)) = false ∧ tyP t ∈ bltNames := by
  cases t <;> exact ⟨by decide +kernel, by decide, by decide, by decide⟩
theorem mTys_ok (x : XOk M C sc fnb X) : ∀ {ts : List Ty} {es : List Expr}, mTys sc ts es = true → IsTys X es ts
  | [], [], _ => trivial
  | [], _ :: _, h => by cases h
  | _ :: _, [], h => by cases h
  | t :: ts, e :: es, h => by
    simp only [mTys, Bool.and_eq_true] at h
    obtain ⟨h1, h2⟩ := h
    split at h1
    · rename_i nm p q
      have := vName_eq q
      subst this
      simp only [Bool.and_eq_true, decide_eq_true_eq] at h1
      obtain ⟨rfl, h3⟩ := h1
      obtain ⟨b1, b2, b3, b4⟩ := ty_boot t
      exact ⟨x.gl h3, x.blt _ b4, b1, b2, b3, mTys_ok x h2⟩
    · cases h1
theorem mNms_ok (x : XOk M C sc fnb X) : ∀ {is : List Nat} {es : List Expr}, mNms M sc fnb is es = true → IsNms X is es
  | [], [], _ => trivial
  | [], _ :: _, h => by cases h
  | _ :: _, [], h => by cases h
  | t :: ts, e :: es, h => by
    simp only [mNms, Bool.and_eq_true] at h
    obtain ⟨h1, h2⟩ := h
    split at h1
    · rename_i nm p q
      have := vName_eq q
      subst this
      exact ⟨x.tgt h1, mNms_ok x h2⟩
    · cases h1
theorem mTg_ok (x : XOk M C sc fnb X) {tg : Tg} {e : Expr} (h : mTg M sc fnb tg e = true) : PG X e (tG X.K pa tg) := by
  cases tg with
  | nm i =>
    simp only [mTg] at h
    split at h
    · rename_i nm p q
      have := vName_eq q
      subst this
      obtain ⟨h1, h2, h3⟩ := x.tgt h
      exact g_nm x.ndX h1 h2 h3
    · cases h
  | tp is =>
    simp only [mTg] at h
    split at h
    · rename_i es q
      obtain ⟨k, p, rfl⟩ := vTup_eq q
      exact g_tp x.calm x.ndX (mNms_ok x h)
    · cases h
theorem plain_true {e : Expr} {env : PySem.Env} (h : plainT e = true) (whole : Sem Value) : isTrue e env whole = (do let v ← whole; standAt e.pos; holding [v] (truthy v)) := by
  cases e with
  | UnaryOp o a p => cases o <;> first | rfl | cases h
  | BoolOp _ _ _ => cases h
  | IfExp _ _ _ _ => cases h
  | Compare _ _ _ _ => cases h
  | _ => rfl
end

section
variable (M : MC) (C : Ctx) (pa : List Addr)
def SdE (e : E) : Prop := ∀ X sc fnb pe, XOk M C sc fnb X → mE M sc fnb e pe = true → PE X pe (tE X.K pa (evE C e))
def SdT (e : E) : Prop := ∀ X sc fnb pe, XOk M C sc fnb X → mT M sc fnb e pe = true → PT X pe (tT X.K pa (evT C e)) ∧ ∀ op vs p, pe = .BoolOp op vs p → PW X pe (tT X.K pa (evT C e))
def SdEs (es : Es) : Prop := (∀ X sc fnb xs, XOk M C sc fnb X → mEs M sc fnb es xs = true → xs.all notStar = true ∧ xs.length = es.len ∧ PA X xs (tL X.K pa (evL C es)) ∧ PA X xs (tR X.K pa (evR C es)) ∧ PA X xs (tPV X.K pa (evP C es))) ∧
  (∀ X sc fnb xs, XOk M C sc fnb X → mF M sc fnb es xs = true → PTs X xs (tT X.K pa (evF C es))) ∧ ∀ a r, es = .cons a r → SdE M C pa a
def SdAs (as : As) : Prop := ∀ X sc fnb xs, XOk M C sc fnb X → mAs M sc fnb as xs = true → xs.all notStar = true ∧ PA X xs (tAp X.K pa (evA C as)) ∧ (xs = [] → as = .nil)
def SdI (it : It) : Prop := (∀ X sc fnb x t, XOk M C sc fnb X → mI M sc fnb it x t = true → PI X t x (tI X.K pa (evI C it))) ∧ ∀ a, it = .rng1 a → SdE M C pa a
end
section
variable {M : MC} {C : Ctx} {pa : List Addr} {a b c : E}
/-- a plain form: the test from the value -/
theorem plain_of {e : E} (h : SdE M C pa e) (q : ∀ sc fnb pe, mT M sc fnb e pe = true → mE M sc fnb e pe = true ∧ plainT pe = true) : SdT M C pa e := fun X sc fnb pe x m => by
  obtain ⟨m1, m2⟩ := q sc fnb pe m
  exact ⟨t_of (h X sc fnb pe x m1) (plain_true m2), fun op vs p e => by subst e; cases m2⟩
theorem never_of {e : E} (q : ∀ sc fnb pe, mT M sc fnb e pe = false) : SdT M C pa e := fun X sc fnb pe x m => by rw [q] at m; cases m
theorem z_v (i : Nat) : SdE M C pa (.v i) := fun X sc fnb pe x m => by
  simp only [mE] at m
  split at m
  · rename_i nm p q
    have := vName_eq q
    subst this
    obtain ⟨h1, h2, h3, h4⟩ := x.slot m
    exact s_var h1 h2 h3 h4
  · cases m
theorem z_con (d : D) : SdE M C pa (.con d) := fun X sc fnb pe x m => by
  simp only [mE] at m
  split at m
  · rename_i cc q
    obtain ⟨k, p, rfl⟩ := vConst_eq q
    unfold eqO at m
    split at m
    · rename_i d' e1
      have := eqS_eq m
      subst this
      cases cc <;> simp only [conD] at e1 <;> cases e1
      · exact s_const pe_non (fun _ => .non) fun ρ => by simp only [evE]
      · exact s_const pe_bl (fun _ => .bl _) fun ρ => by simp only [evE]
      · exact s_const pe_int (fun _ => .int _) fun ρ => by simp only [evE]
      · exact s_const pe_str (fun _ => .str _) fun ρ => by simp only [evE]
    · cases m
  · cases m
theorem z_glo (y : Str) (d : D) : SdE M C pa (.glo y d) := fun X sc fnb pe x m => by
  simp only [mE] at m
  split at m
  · rename_i nm p q
    have := vName_eq q
    subst this
    simp only [Bool.and_eq_true, decide_eq_true_eq, okN, Bool.not_eq_true'] at m
    obtain ⟨⟨⟨rfl, h2⟩, h3⟩, h4, _⟩ := m
    unfold eqO at h3
    split at h3
    · rename_i d' e1
      have := eqS_eq h3
      subst this
      obtain ⟨v, u, g1, g2, g3⟩ := x.con _ _ e1
      exact s_const (pe_glob (x.gl h2) g1 g2 h4) g3 fun ρ => by simp only [evE]
    · cases h3
  · cases m
theorem z_tup {es : Es} (h : SdEs M C pa es) : SdE M C pa (.tup es) := fun X sc fnb pe x m => by
  simp only [mE] at m
  split at m
  · rename_i xs q
    obtain ⟨k, p, rfl⟩ := vTup_eq q
    simp only [Bool.and_eq_true, decide_eq_true_eq] at m
    obtain ⟨_, h2, h3, _, _⟩ := h.1 X sc fnb xs x m.2
    exact s_tup (by rw [← h2]; exact m.1) h3
  · cases m
theorem z_lst {es : Es} (h : SdEs M C pa es) : SdE M C pa (.lst es) := fun X sc fnb pe x m => by
  simp only [mE] at m
  split at m
  · rename_i xs q
    obtain ⟨p, rfl⟩ := vLst_eq q
    simp only [Bool.and_eq_true, decide_eq_true_eq] at m
    obtain ⟨_, h2, h3, _, _⟩ := h.1 X sc fnb xs x m.2
    exact s_lst (by rw [← h2]; exact m.1) h3
  · cases m
theorem z_dnk : SdE M C pa .dnk := fun X sc fnb pe x m => by
  simp only [mE] at m
  split at m
  · rename_i q
    obtain ⟨p, rfl⟩ := vDic_eq q
    exact s_dnk
  · cases m
theorem z_op2 {o : Op2} (ha : SdE M C pa a) (hb : SdE M C pa b) : SdE M C pa (.op2 o a b) := fun X sc fnb pe x m => by
  simp only [mE] at m
  split at m
  · rename_i u p v q
    obtain ⟨k, rfl⟩ := vBin_eq q
    simp only [Bool.and_eq_true, decide_eq_true_eq] at m
    obtain ⟨⟨rfl, h2⟩, h3⟩ := m
    exact s_op2 (ha X sc fnb _ x h2) (hb X sc fnb _ x h3)
  · cases m
theorem z_neg (ha : SdE M C pa a) : SdE M C pa (.neg a) := fun X sc fnb pe x m => by
  simp only [mE] at m
  split at m
  · rename_i u p q
    obtain ⟨k, rfl⟩ := vUn_eq q
    simp only [Bool.and_eq_true, decide_eq_true_eq] at m
    obtain ⟨rfl, h2⟩ := m
    exact s_neg (ha X sc fnb _ x h2)
  · cases m
theorem z_cmp {o : Cm} (ha : SdE M C pa a) (hb : SdE M C pa b) : SdE M C pa (.cmp o a b) := fun X sc fnb pe x m => by
  simp only [mE] at m
  split at m
  · rename_i u p v q
    obtain ⟨k, rfl⟩ := vCmp_eq q
    simp only [Bool.and_eq_true, decide_eq_true_eq, Bool.not_eq_true'] at m
    obtain ⟨⟨⟨rfl, h1⟩, h2⟩, h3⟩ := m
    exact s_cmp x.hu (ha X sc fnb _ x h2) (hb X sc fnb _ x h3) h1
  · cases m
theorem zt_cmp {o : Cm} (ha : SdE M C pa a) (hb : SdE M C pa b) : SdT M C pa (.cmp o a b) := fun X sc fnb pe x m => by
  simp only [mT] at m
  split at m
  · rename_i u p v q
    obtain ⟨k, rfl⟩ := vCmp_eq q
    simp only [Bool.and_eq_true, decide_eq_true_eq, Bool.not_eq_true'] at m
    obtain ⟨⟨⟨rfl, h1⟩, h2⟩, h3⟩ := m
    exact ⟨t_cmp x.hu (ha X sc fnb _ x h2) (hb X sc fnb _ x h3) h1, nofun⟩
  · cases m
theorem z_cmp2 {o o' : Cm} (ha : SdE M C pa a) (hb : SdE M C pa b) (hc : SdE M C pa c) : SdE M C pa (.cmp2 o o' a b c) := fun X sc fnb pe x m => by
  simp only [mE] at m
  split at m
  · rename_i u p p' v w q
    obtain ⟨k, rfl⟩ := vCmp_eq q
    simp only [Bool.and_eq_true, decide_eq_true_eq, Bool.not_eq_true'] at m
    obtain ⟨⟨⟨⟨⟨rfl, rfl⟩, h1⟩, h2⟩, h3⟩, h4⟩ := m
    exact s_cmp2 x.hu (ha X sc fnb _ x h2) (hb X sc fnb _ x h3) (hc X sc fnb _ x h4) h1
  · cases m
theorem zt_cmp2 {o o' : Cm} (ha : SdE M C pa a) (hb : SdE M C pa b) (hc : SdE M C pa c) : SdT M C pa (.cmp2 o o' a b c) := fun X sc fnb pe x m => by
  simp only [mT] at m
  split at m
  · rename_i u p p' v w q
    obtain ⟨k, rfl⟩ := vCmp_eq q
    simp only [Bool.and_eq_true, decide_eq_true_eq, Bool.not_eq_true'] at m
    obtain ⟨⟨⟨⟨⟨rfl, rfl⟩, h1⟩, h2⟩, h3⟩, h4⟩ := m
    exact ⟨t_cmp2 x.hu (ha X sc fnb _ x h2) (hb X sc fnb _ x h3) (hc X sc fnb _ x h4) h1, nofun⟩
  · cases m
theorem z_and (ha : SdE M C pa a) (hb : SdE M C pa b) : SdE M C pa (.and a b) := fun X sc fnb pe x m => by
  simp only [mE] at m
  split at m
  · rename_i u v p q
    have := vBool_eq q
    subst this
    simp only [Bool.and_eq_true] at m
    exact s_and (ha X sc fnb _ x m.1) (pe_one (hb X sc fnb _ x m.2))
  · rename_i u v w r p q
    have := vBool_eq q
    subst this
    simp only [Bool.and_eq_true] at m
    exact s_and (ha X sc fnb _ x m.1) (hb X sc fnb _ x m.2)
  · cases m
theorem z_or (ha : SdE M C pa a) (hb : SdE M C pa b) : SdE M C pa (.or a b) := fun X sc fnb pe x m => by
  simp only [mE] at m
  split at m
  · rename_i u v p q
    have := vBool_eq q
    subst this
    simp only [Bool.and_eq_true] at m
    exact s_or (ha X sc fnb _ x m.1) (pe_one (hb X sc fnb _ x m.2))
  · rename_i u v w r p q
    have := vBool_eq q
    subst this
    simp only [Bool.and_eq_true] at m
    exact s_or (ha X sc fnb _ x m.1) (hb X sc fnb _ x m.2)
  · cases m
theorem zt_and (ha : SdT M C pa a) (hb : SdT M C pa b) : SdT M C pa (.and a b) := fun X sc fnb pe x m => by
  have key : PW X pe (tT X.K pa (evT C (.and a b))) := by
    simp only [mT] at m
    split at m
    · rename_i u v p q
      have := vBool_eq q
      subst this
      simp only [Bool.and_eq_true] at m
      exact w_and (ha X sc fnb _ x m.1).1 (pw_and1 (hb X sc fnb _ x m.2).1)
    · rename_i u v w r p q
      have := vBool_eq q
      subst this
      simp only [Bool.and_eq_true] at m
      exact w_and (ha X sc fnb _ x m.1).1 ((hb X sc fnb _ x m.2).2 _ _ _ rfl)
    · cases m
  exact ⟨key.pt, fun _ _ _ _ => key⟩
theorem zt_or (ha : SdT M C pa a) (hb : SdT M C pa b) : SdT M C pa (.or a b) := fun X sc fnb pe x m => by
  have key : PW X pe (tT X.K pa (evT C (.or a b))) := by
    simp only [mT] at m
    split at m
    · rename_i u v p q
      have := vBool_eq q
      subst this
      simp only [Bool.and_eq_true] at m
      exact w_or (ha X sc fnb _ x m.1).1 (pw_or1 (hb X sc fnb _ x m.2).1)
    · rename_i u v w r p q
      have := vBool_eq q
      subst this
      simp only [Bool.and_eq_true] at m
      exact w_or (ha X sc fnb _ x m.1).1 ((hb X sc fnb _ x m.2).2 _ _ _ rfl)
    · cases m
  exact ⟨key.pt, fun _ _ _ _ => key⟩
theorem z_not (ha : SdE M C pa a) : SdE M C pa (.not a) := fun X sc fnb pe x m => by
  simp only [mE] at m
  split at m
  · rename_i u p q
    obtain ⟨k, rfl⟩ := vUn_eq q
    simp only [Bool.and_eq_true, decide_eq_true_eq] at m
    obtain ⟨rfl, h2⟩ := m
    exact s_not (ha X sc fnb _ x h2)
  · cases m
theorem zt_not (ha : SdT M C pa a) : SdT M C pa (.not a) := fun X sc fnb pe x m => by
  simp only [mT] at m
  split at m
  · rename_i u p q
    obtain ⟨k, rfl⟩ := vUn_eq q
    simp only [Bool.and_eq_true, decide_eq_true_eq] at m
    obtain ⟨rfl, h2⟩ := m
    exact ⟨t_not (ha X sc fnb _ x h2).1, nofun⟩
  · cases m
theorem z_ite (hc : SdT M C pa c) (ha : SdE M C pa a) (hb : SdE M C pa b) : SdE M C pa (.ite c a b) := fun X sc fnb pe x m => by
  simp only [mE] at m
  split at m
  · rename_i u v w q
    obtain ⟨k, rfl⟩ := vIf_eq q
    simp only [Bool.and_eq_true] at m
    exact s_ite (hc X sc fnb _ x m.1.1).1 (ha X sc fnb _ x m.1.2) (hb X sc fnb _ x m.2)
  · cases m
theorem isi_of {f : Bi} {t : List Ty} (h : tysOf f = some t) : f = .isi t := by cases f <;> cases h; rfl
theorem es_one {es : Es} (h : es.len = 1) : ∃ a, es = .cons a .nil := by
  cases es with
  | nil => cases h
  | cons a r =>
    cases r with
    | nil => exact ⟨a, rfl⟩
    | cons b r => simp [Es.len] at h
theorem z_bi {f : Bi} {es : Es} (h : SdEs M C pa es) : SdE M C pa (.bi f es) := fun X sc fnb pe x m => by
  simp only [mE] at m
  split at m
  · rename_i nm xs q
    obtain ⟨p, p2, rfl⟩ := vCall_eq q
    simp only [Bool.and_eq_true, decide_eq_true_eq] at m
    obtain ⟨⟨rfl, h2⟩, h3⟩ := m
    split at h3
    · rename_i t y z e1
      have := isi_of e1
      subst this
      simp only [Bool.and_eq_true] at h3
      obtain ⟨⟨h4, h5⟩, h6⟩ := h3
      obtain ⟨_, hl, _⟩ := h.1 X sc fnb _ x h5
      obtain ⟨a, rfl⟩ := es_one (by rw [← hl]; rfl)
      simp only [mEs, Bool.and_eq_true] at h5
      have ha := h.2.2 a .nil rfl X sc fnb y x h5.1.2
      split at h6
      · rename_i zs q2
        obtain ⟨k2, p3, rfl⟩ := vTup_eq q2
        exact s_isiT (ts := [t]) (by simp) (x.gl h2) (x.blt _ (bi_mem (.isi [t]))) h4 ha (mTys_ok x h6)
      · exact s_isi (x.gl h2) (x.blt _ (bi_mem (.isi [t]))) h4 ha (mTys_ok x h6)
    · rename_i ts y z _ e1
      have := isi_of e1
      subst this
      simp only [Bool.and_eq_true, decide_eq_true_eq] at h3
      obtain ⟨⟨⟨h4, h5⟩, h7⟩, h6⟩ := h3
      obtain ⟨_, hl, _⟩ := h.1 X sc fnb _ x h5
      obtain ⟨a, rfl⟩ := es_one (by rw [← hl]; rfl)
      simp only [mEs, Bool.and_eq_true] at h5
      have ha := h.2.2 a .nil rfl X sc fnb y x h5.1.2
      split at h6
      · rename_i zs q2
        obtain ⟨k2, p3, rfl⟩ := vTup_eq q2
        exact s_isiT h7 (x.gl h2) (x.blt _ (bi_mem (.isi ts))) h4 ha (mTys_ok x h6)
      · cases h6
    · rename_i y ys e1
      have hf : ∀ ts, f ≠ .isi ts := fun ts z => by subst z; cases e1
      obtain ⟨hs, _, _, hR, _⟩ := h.1 X sc fnb _ x h3
      obtain ⟨n, hn⟩ := biV_or f
      exact s_bi (T := n) x.hu x.calm hf hn (x.gl h2) (x.blt _ (bi_mem f)) (bi_boot f hf) (bi_nm f).1 (bi_nm f).2 hs hR
    · cases h3
  · cases m
theorem z_lrng {it : It} (h : SdI M C pa it) : SdE M C pa (.lrng it) := fun X sc fnb pe x m => by
  simp only [mE] at m
  split at m
  · rename_i nm r q
    obtain ⟨p, p2, rfl⟩ := vCall_eq q
    simp only [Bool.and_eq_true, decide_eq_true_eq] at m
    obtain ⟨⟨⟨rfl, h2⟩, h3⟩, h4⟩ := m
    cases it with
    | rng1 a =>
      simp only [mI] at h4
      split at h4
      · rename_i nm2 y q2
        obtain ⟨p3, p4, rfl⟩ := vCall_eq q2
        simp only [Bool.and_eq_true, decide_eq_true_eq] at h4
        obtain ⟨⟨⟨rfl, g2⟩, g3⟩, g4⟩ := h4
        exact s_lrng1 x.calm (x.gl h2) (x.blt _ (by decide)) (x.gl g2) (x.blt _ (by decide)) g3 (h.2 a rfl X sc fnb _ x g4)
      · cases h4
    | _ => cases h3
  · cases m
theorem z_mu {mm : Mu} {i : Nat} {es : Es} (h : SdEs M C pa es) : SdE M C pa (.mu mm i es) := fun X sc fnb pe x m => by
  simp only [mE] at m
  split at m
  · rename_i o nm xs ln q
    obtain ⟨ap, p2, rfl, rfl⟩ := vMeth_eq q
    simp only [Bool.and_eq_true, decide_eq_true_eq] at m
    obtain ⟨⟨⟨⟨⟨h1, rfl⟩, h3⟩, h4⟩, h5⟩, h6⟩ := m
    split at h3
    · rename_i y p q2
      have := vName_eq q2
      subst this
      obtain ⟨hs, hl, hL, hR, _⟩ := h.1 X sc fnb _ x h5
      cases mm with
      | append =>
        cases xs with
        | nil => cases h6
        | cons u us => exact s_muL (m := .append) rfl (fun pn s σ H v vs v' us' Q I rv rvs ⟨F, a, c, ds, d, c', sb, hF, e, t, dp, em, ch⟩ => mu_append pn s σ H v vs v' us' Q I rv rvs ⟨F, a, c, ds, d, c', sb, e, t, dp, em, ch⟩) PySem.F.plainAttrs_list PySem.F.slot_list_append PySem.F.type_list_append (muK_ty (by decide)) (x.pv h3) h1 hs (by simp at h4; omega) hL
      | update =>
        cases xs with
        | nil => cases h6
        | cons u us => exact s_muL (m := .update) rfl (mu_update x.hu) PySem.F.plainAttrs_dict PySem.F.slot_dict_update PySem.F.type_dict_update muK_tyD (x.pv h3) h1 hs (by simp at h4; omega) hL
      | extend =>
        cases xs with
        | nil => cases h6
        | cons u us => exact s_muR (m := .extend) rfl mu_extend PySem.F.slot_list_extend PySem.F.type_list_extend (by decide) (x.pv h3) h1 hs (by simp at h4; omega) hR
      | popAt =>
        cases xs with
        | nil => cases h6
        | cons u us => exact s_muR (m := .popAt) rfl mu_popAt PySem.F.slot_list_pop PySem.F.type_list_pop (by decide) (x.pv h3) h1 hs (by simp at h4; omega) hR
      | pop =>
        cases xs with
        | cons u us => cases h6
        | nil =>
          cases es with
          | nil => exact s_muR0 (m := .pop) rfl mu_pop PySem.F.slot_list_pop PySem.F.type_list_pop (by decide) (x.pv h3) h1
          | cons _ _ => simp [Es.len] at hl
    · cases h3
  · cases m
theorem z_call {f : Nat} {as : As} (h : SdAs M C pa as) : SdE M C pa (.call f as) := fun X sc fnb pe x m => by
  simp only [mE] at m
  split at m
  · rename_i nm xs q
    obtain ⟨p, p2, rfl⟩ := vCall_eq q
    simp only [Bool.and_eq_true, decide_eq_true_eq, okN, Bool.not_eq_true'] at m
    obtain ⟨⟨⟨h1, h2⟩, h3, _⟩, h4⟩ := m
    obtain ⟨k, fa, fd, ps, g1, g2, g3, g4, g5⟩ := x.call f nm h1
    obtain ⟨hs, ha, hn⟩ := h X sc fnb _ x h4
    cases xs with
    | nil =>
      have := hn rfl
      subst this
      exact s_call0 g1 g2 (x.gl h2) g3 g4 g5 h3
    | cons u us => exact s_call g1 g2 (x.gl h2) g3 g4 g5 h3 hs ha
  · cases m
theorem z_ix (ha : SdE M C pa a) (hb : SdE M C pa b) : SdE M C pa (.ix a b) := fun X sc fnb pe x m => by
  simp only [mE] at m
  split at m
  · rename_i u v q
    obtain ⟨k, rfl⟩ := vSub_eq q
    simp only [Bool.and_eq_true] at m
    exact s_ix (by have := x.hu; omega) (plain_ix m.1.1) (ha X sc fnb _ x m.1.2) (hb X sc fnb _ x m.2)
  · cases m
theorem z_po {o : Option Expr} {X : Cx} {sc : Scope} {fnb : Str → Bool} (x : XOk M C sc fnb X) (ha : SdE M C pa a) (m : (match o with | none => isNo a | some l' => mE M sc fnb a l') = true) : PO X o (tP X.K pa (evE C a)) := by
  cases o with
  | none =>
    cases a <;> first | (cases m; done) | exact p_none
  | some l => exact p_some (ha X sc fnb _ x m)
theorem z_sl (ha : SdE M C pa a) (hb : SdE M C pa b) (hc : SdE M C pa c) : SdE M C pa (.sl a b c) := fun X sc fnb pe x m => by
  simp only [mE] at m
  split at m
  · rename_i u v q
    obtain ⟨k, rfl⟩ := vSub_eq q
    simp only [Bool.and_eq_true] at m
    obtain ⟨m1, m2⟩ := m
    split at m2
    · rename_i l h q2
      obtain ⟨k2, rfl⟩ := vSli_eq q2
      simp only [Bool.and_eq_true] at m2
      exact s_sl (ha X sc fnb _ x m1) (z_po x hb m2.1) (z_po x hc m2.2)
    · cases m2
  · cases m
theorem z_rev (ha : SdE M C pa a) : SdE M C pa (.rev a) := fun X sc fnb pe x m => by
  simp only [mE] at m
  split at m
  · rename_i u v q
    obtain ⟨k, rfl⟩ := vSub_eq q
    simp only [Bool.and_eq_true] at m
    obtain ⟨k, p1, p2, p3, rfl⟩ := vRev_eq m.1
    exact s_rev (ha X sc fnb _ x m.2)
  · cases m
/-- what a comprehension's parts give, within its block -/
theorem comp_parts {X : Cx} {sc : Scope} {fnb : Str → Bool} (x : XOk M C sc fnb X) {s : Scope} {tg : Tg} {tx : Expr} {ifs : Es} {fx : List Expr} (hf : SdEs M C pa ifs) (m1 : mTg M (relS s sc) (fnbOf s) tg tx = true) (m2 : mF M (relS s sc) (fnbOf s) ifs fx = true) :
    (∀ (st : Shared) (H : Hp) (Ce : Addr) (cl : List (Str × Addr)) (fp : List Addr), PG (X.blk st H s (compEnvC s cl Ce X.env) fp) tx (tG X.K pa tg)) ∧
    (∀ (st : Shared) (H : Hp) (Ce : Addr) (cl : List (Str × Addr)) (fp : List Addr), PTs (X.blk st H s (compEnvC s cl Ce X.env) fp) fx (tT X.K pa (evF C ifs))) :=
  ⟨fun st H Ce cl fp => mTg_ok (x.blk st H s cl Ce fp) m1, fun st H Ce cl fp => hf.2.1 _ _ _ _ (x.blk st H s cl Ce fp) m2⟩
theorem elt_part {X : Cx} {sc : Scope} {fnb : Str → Bool} (x : XOk M C sc fnb X) {s : Scope} {ex : Expr} (h : SdE M C pa a) (m : mE M (relS s sc) (fnbOf s) a ex = true) :
    ∀ (st : Shared) (H : Hp) (Ce : Addr) (cl : List (Str × Addr)) (fp : List Addr), PE (X.blk st H s (compEnvC s cl Ce X.env) fp) ex (tE X.K pa (evE C a)) := fun st H Ce cl fp => h _ _ _ _ (x.blk st H s cl Ce fp) m
theorem z_comp {elt : E} {tg : Tg} {it : It} {ifs : Es} (h1 : SdE M C pa elt) (h2 : SdI M C pa it) (h3 : SdEs M C pa ifs) : SdE M C pa (.comp elt tg it ifs) := fun X sc fnb pe x m => by
  simp only [mE] at m
  split at m
  · rename_i ex tx ix fx s q
    obtain ⟨k, rfl⟩ := vLC_eq q
    simp only [Bool.and_eq_true, decide_eq_true_eq] at m
    obtain ⟨⟨⟨⟨⟨⟨g1, g2⟩, g3⟩, g4⟩, g5⟩, g6⟩, g7⟩ := m
    obtain ⟨p1, p2⟩ := comp_parts x h3 g4 g6
    have ok : BlkOk X.N X.env.scope s (ownOf M.N tg) := by rw [x.N, x.sc]; exact blkOk_by g1
    refine pe_imp (pe_lc x.calm x.ndX (h2.1 X sc fnb _ _ x g5) ok p1 p2 (elt_part x h1 g7) (fold_set g3)) fun σ H Q h => ?_
    rw [g2]
    exact lc_reading h
  · cases m
theorem z_dcomp {kx vx : E} {tg : Tg} {it : It} {ifs : Es} (h0 : SdE M C pa kx) (h1 : SdE M C pa vx) (h2 : SdI M C pa it) (h3 : SdEs M C pa ifs) : SdE M C pa (.dcomp kx vx tg it ifs) := fun X sc fnb pe x m => by
  simp only [mE] at m
  split at m
  · rename_i ek ev tx ix fx s q
    obtain ⟨k, rfl⟩ := vDC_eq q
    simp only [Bool.and_eq_true, decide_eq_true_eq] at m
    obtain ⟨⟨⟨⟨⟨⟨⟨g1, g2⟩, g3⟩, g4⟩, g5⟩, g6⟩, g7⟩, g8⟩ := m
    obtain ⟨p1, p2⟩ := comp_parts x h3 g4 g6
    have ok : BlkOk X.N X.env.scope s (ownOf M.N tg) := by rw [x.N, x.sc]; exact blkOk_by g1
    refine pe_imp (pe_dcA (by have := x.hu; omega) x.calm x.ndX (h2.1 X sc fnb _ _ x g5) ok p1 p2 (elt_part x h0 g7) (elt_part x h1 g8) (fold_set g3)) fun σ H Q h => ?_
    rw [g2]
    exact dc_reading h
  · cases m
/-! lists -/
theorem z_nil : SdEs M C pa .nil := by
  refine ⟨fun X sc fnb xs x m => ?_, fun X sc fnb xs x m => ?_, nofun⟩
  · simp only [mEs, List.isEmpty_iff] at m
    subst m
    exact ⟨rfl, rfl, s_nil, s_nilR, v_nil⟩
  · simp only [mF, List.isEmpty_iff] at m
    subst m
    refine ⟨fun pn s σ H Q I ⟨F, ρ, t, ρ', R, e, k⟩ => ?_⟩
    simp only [evF] at e
    cases e
    exact pts_nil.run pn s σ H Q I (k F H R .rfl')
theorem z_cons {es : Es} (ha : SdE M C pa a) (ht : SdT M C pa a) (h : SdEs M C pa es) : SdEs M C pa (.cons a es) := by
  refine ⟨fun X sc fnb xs x m => ?_, fun X sc fnb xs x m => ?_, fun b r e => ?_⟩
  · simp only [mEs] at m
    split at m
    · simp only [Bool.and_eq_true] at m
      obtain ⟨⟨m1, m2⟩, m3⟩ := m
      obtain ⟨g1, g2, g3, g4, g5⟩ := h.1 X sc fnb _ x m3
      have p := ha X sc fnb _ x m2
      exact ⟨by simp [m1, g1], by simp [Es.len, g2], s_cons m1 p g3, s_consR m1 p g4, v_cons m1 p g5⟩
    · cases m
  · simp only [mF] at m
    split at m
    · rename_i y
      refine ⟨fun pn s σ H Q I ⟨F, ρ, t, ρ', R, e, k⟩ => (pts_one (ht X sc fnb _ x m).1).run pn s σ H Q I ⟨F, ρ, t, ρ', R, ?_, k⟩⟩
      simp only [evF] at e
      exact e
    · cases m
  · cases e; exact ha
theorem za_nil : SdAs M C pa .nil := fun X sc fnb xs x m => by
  simp only [mAs, List.isEmpty_iff] at m
  subst m
  exact ⟨rfl, a_nil, fun _ => rfl⟩
theorem za_val {as : As} (ha : SdE M C pa a) (h : SdAs M C pa as) : SdAs M C pa (.val a as) := fun X sc fnb xs x m => by
  simp only [mAs] at m
  split at m
  · simp only [Bool.and_eq_true] at m
    obtain ⟨⟨m1, m2⟩, m3⟩ := m
    obtain ⟨g1, g2, _⟩ := h X sc fnb _ x m3
    exact ⟨by simp [m1, g1], a_val m1 (ha X sc fnb _ x m2) g2, nofun⟩
  · cases m
theorem za_io {i : Nat} {as : As} (h : SdAs M C pa as) : SdAs M C pa (.io i as) := fun X sc fnb xs x m => by
  simp only [mAs] at m
  split at m
  · simp only [Bool.and_eq_true] at m
    obtain ⟨m1, m3⟩ := m
    split at m1
    · rename_i nm p q
      have := vName_eq q
      subst this
      obtain ⟨g1, g2, _⟩ := h X sc fnb _ x m3
      exact ⟨by simp [notStar, g1], a_io (x.pv m1) g2, nofun⟩
    · cases m1
  · cases m
theorem isTup_eq {e : Expr} (h : isTupE e = true) : ∃ es k p, e = .Tuple es k p := by cases e <;> cases h; exact ⟨_, _, _, rfl⟩
theorem zi_seq (ha : SdE M C pa a) : SdI M C pa (.seq a) := by
  refine ⟨fun X sc fnb x t xo m => ?_, nofun⟩
  · simp only [mI] at m
    exact i_seq (ha X sc fnb _ xo m)

theorem zi_rng1 (ha : SdE M C pa a) : SdI M C pa (.rng1 a) := by
  refine ⟨fun X sc fnb x t xo m => ?_, fun b e => ?_⟩
  · simp only [mI] at m
    split at m
    · rename_i nm y q
      obtain ⟨p, p2, rfl⟩ := vCall_eq q
      simp only [Bool.and_eq_true, decide_eq_true_eq] at m
      obtain ⟨⟨⟨rfl, h2⟩, h3⟩, h4⟩ := m
      exact i_rng1 (xo.gl h2) (xo.blt _ (by decide)) h3 (ha X sc fnb _ xo h4)
    · cases m
  · cases e; exact ha
theorem zi_rng2 (ha : SdE M C pa a) (hb : SdE M C pa b) : SdI M C pa (.rng2 a b) := by
  refine ⟨fun X sc fnb x t xo m => ?_, nofun⟩
  · simp only [mI] at m
    split at m
    · rename_i nm y z q
      obtain ⟨p, p2, rfl⟩ := vCall_eq q
      simp only [Bool.and_eq_true, decide_eq_true_eq] at m
      obtain ⟨⟨⟨⟨⟨rfl, h2⟩, h3⟩, h4⟩, h5⟩, h6⟩ := m
      exact i_rng2 (xo.gl h2) (xo.blt _ (by decide)) h3 h4 (ha X sc fnb _ xo h5) (hb X sc fnb _ xo h6)
    · cases m

theorem zi_zip (ha : SdE M C pa a) (hb : SdE M C pa b) : SdI M C pa (.zip a b) := by
  refine ⟨fun X sc fnb x t xo m => ?_, nofun⟩
  · simp only [mI, Bool.and_eq_true] at m
    obtain ⟨m1, m⟩ := m
    obtain ⟨es, k, p3, rfl⟩ := isTup_eq m1
    split at m
    · rename_i nm y z q
      obtain ⟨p, p2, rfl⟩ := vCall_eq q
      simp only [Bool.and_eq_true, decide_eq_true_eq] at m
      obtain ⟨⟨⟨⟨⟨rfl, h2⟩, h3⟩, h4⟩, h5⟩, h6⟩ := m
      exact i_zip (xo.gl h2) (xo.blt _ (by decide)) h3 h4 (ha X sc fnb _ xo h5) (hb X sc fnb _ xo h6)
    · cases m

theorem zi_enm (ha : SdE M C pa a) : SdI M C pa (.enm a) := by
  refine ⟨fun X sc fnb x t xo m => ?_, nofun⟩
  · simp only [mI, Bool.and_eq_true] at m
    obtain ⟨m1, m⟩ := m
    obtain ⟨es, k, p3, rfl⟩ := isTup_eq m1
    split at m
    · rename_i nm y q
      obtain ⟨p, p2, rfl⟩ := vCall_eq q
      simp only [Bool.and_eq_true, decide_eq_true_eq] at m
      obtain ⟨⟨⟨rfl, h2⟩, h3⟩, h4⟩ := m
      exact i_enm (xo.gl h2) (xo.blt _ (by decide)) h3 (ha X sc fnb _ xo h4)
    · cases m

theorem z_false {e : E} (q : ∀ sc fnb pe, mE M sc fnb e pe = false) : SdE M C pa e := fun X sc fnb pe x m => by rw [q] at m; cases m
end
mutual
theorem sndE {M : MC} {C : Ctx} {pa : List Addr} : ∀ e : E, SdE M C pa e ∧ SdT M C pa e
  | .v i => ⟨z_v i, plain_of (z_v i) fun sc fnb pe m => ⟨by simpa only [mT, mE] using m, by cases hq : vName pe with | none => simp only [mT, hq] at m; cases m | some q => exact (let e := vName_eq (x := q.1) (p := q.2) hq; e ▸ rfl)⟩⟩
  | .con d => ⟨z_con d, never_of fun _ _ _ => by simp [mT]⟩
  | .glo x d => ⟨z_glo x d, never_of fun _ _ _ => by simp [mT]⟩
  | .no => ⟨z_false fun _ _ _ => by simp [mE], never_of fun _ _ _ => by simp [mT]⟩
  | .bad => ⟨fun _ _ _ _ _ _ => s_bad, fun X sc fnb pe x m => ⟨t_bad, fun _ _ _ _ => ⟨fun wh pn s σ H Q I ⟨F, ρ, r, ρ', R, e, k⟩ => by simp only [evT, evE] at e; cases e⟩⟩⟩
  | .tup es => ⟨z_tup (sndEs es), never_of fun _ _ _ => by simp [mT]⟩
  | .lst es => ⟨z_lst (sndEs es), never_of fun _ _ _ => by simp [mT]⟩
  | .dnk => ⟨z_dnk, never_of fun _ _ _ => by simp [mT]⟩
  | .dnt => ⟨z_false fun _ _ _ => by simp [mE], never_of fun _ _ _ => by simp [mT]⟩
  | .dic _ _ => ⟨z_false fun _ _ _ => by simp [mE], never_of fun _ _ _ => by simp [mT]⟩
  | .op2 o a b => ⟨z_op2 (sndE a).1 (sndE b).1, never_of fun _ _ _ => by simp [mT]⟩
  | .neg a => ⟨z_neg (sndE a).1, never_of fun _ _ _ => by simp [mT]⟩
  | .cmp o a b => ⟨z_cmp (sndE a).1 (sndE b).1, zt_cmp (sndE a).1 (sndE b).1⟩
  | .cmp2 o o' a b c => ⟨z_cmp2 (sndE a).1 (sndE b).1 (sndE c).1, zt_cmp2 (sndE a).1 (sndE b).1 (sndE c).1⟩
  | .and a b => ⟨z_and (sndE a).1 (sndE b).1, zt_and (sndE a).2 (sndE b).2⟩
  | .or a b => ⟨z_or (sndE a).1 (sndE b).1, zt_or (sndE a).2 (sndE b).2⟩
  | .not a => ⟨z_not (sndE a).1, zt_not (sndE a).2⟩
  | .ite c a b => ⟨z_ite (sndE c).2 (sndE a).1 (sndE b).1, never_of fun _ _ _ => by simp [mT]⟩
  | .bi f es => ⟨z_bi (sndEs es), plain_of (z_bi (sndEs es)) fun sc fnb pe m => ⟨by simpa only [mT, mE] using m, by cases hq : vCall pe with | none => simp only [mT, hq] at m; cases m | some q => exact (let ⟨_, _, e⟩ := vCall_eq (x := q.1) (es := q.2) hq; e ▸ rfl)⟩⟩
  | .lrng it => ⟨z_lrng (sndI it), never_of fun _ _ _ => by simp [mT]⟩
  | .me _ _ _ => ⟨z_false fun _ _ _ => by simp [mE], never_of fun _ _ _ => by simp [mT]⟩
  | .mu m i es => ⟨z_mu (sndEs es), never_of fun _ _ _ => by simp [mT]⟩
  | .call f as => ⟨z_call (sndAs as), plain_of (z_call (sndAs as)) fun sc fnb pe m => ⟨by simpa only [mT, mE] using m, by cases hq : vCall pe with | none => simp only [mT, hq] at m; cases m | some q => exact (let ⟨_, _, e⟩ := vCall_eq (x := q.1) (es := q.2) hq; e ▸ rfl)⟩⟩
  | .ix a b => ⟨z_ix (sndE a).1 (sndE b).1, plain_of (z_ix (sndE a).1 (sndE b).1) fun sc fnb pe m => ⟨by simpa only [mT, mE] using m, by cases hq : vSub pe with | none => simp only [mT, hq] at m; cases m | some q => exact (let ⟨_, e⟩ := vSub_eq (a := q.1) (b := q.2) hq; e ▸ rfl)⟩⟩
  | .sl a b c => ⟨z_sl (sndE a).1 (sndE b).1 (sndE c).1, never_of fun _ _ _ => by simp [mT]⟩
  | .rev a => ⟨z_rev (sndE a).1, never_of fun _ _ _ => by simp [mT]⟩
  | .comp elt tg it ifs => ⟨z_comp (sndE elt).1 (sndI it) (sndEs ifs), never_of fun _ _ _ => by simp [mT]⟩
  | .dcomp k v tg it ifs => ⟨z_dcomp (sndE k).1 (sndE v).1 (sndI it) (sndEs ifs), never_of fun _ _ _ => by simp [mT]⟩
theorem sndEs {M : MC} {C : Ctx} {pa : List Addr} : ∀ es : Es, SdEs M C pa es
  | .nil => z_nil
  | .cons e es => z_cons (sndE e).1 (sndE e).2 (sndEs es)
theorem sndAs {M : MC} {C : Ctx} {pa : List Addr} : ∀ as : As, SdAs M C pa as
  | .nil => za_nil
  | .val e as => za_val (sndE e).1 (sndAs as)
  | .io i as => za_io (sndAs as)
theorem sndI {M : MC} {C : Ctx} {pa : List Addr} : ∀ it : It, SdI M C pa it
  | .seq e => zi_seq (sndE e).1
  | .rng1 a => zi_rng1 (sndE a).1
  | .rng2 a b => zi_rng2 (sndE a).1 (sndE b).1
  | .zip a b => zi_zip (sndE a).1 (sndE b).1
  | .enm a => zi_enm (sndE a).1
end
end PI

set_option Elab.async false
set_option linter.all false
set_option maxRecDepth 100000
set_option maxHeartbeats 4000000
/-! PIu: the same of statements. -/
namespace PI
set_option autoImplicit false
open PySem PySem.Spec PySem.W L2
open PyProof.Rows hiding St

section
variable {M : MC} {C : Ctx} {pa : List Addr} {sc : Scope} {fnb : Str → Bool} {X : Cx}
theorem comp_of {x : Expr} {e : E} (h : isComp x = true) (m : mE M sc fnb e x = true) : (∃ a t i f, e = .comp a t i f) ∨ (∃ k v t i f, e = .dcomp k v t i f) ∨ e = .bad := by
  cases e with
  | comp a t i f => exact .inl ⟨_, _, _, _, rfl⟩
  | dcomp k v t i f => exact .inr (.inl ⟨_, _, _, _, _, rfl⟩)
  | bad => exact .inr (.inr rfl)
  | _ =>
    exfalso
    cases x with
    | ListComp a b c d => simp [mE, vName, vConst, vTup, vLst, vDic, vBin, vUn, vCmp, vBool, vIf, vCall, vMeth, vSub] at m
    | SetComp a b c d => simp [mE, vName, vConst, vTup, vLst, vDic, vBin, vUn, vCmp, vBool, vIf, vCall, vMeth, vSub] at m
    | DictComp a b c d e => simp [mE, vName, vConst, vTup, vLst, vDic, vBin, vUn, vCmp, vBool, vIf, vCall, vMeth, vSub] at m
    | _ => cases h
theorem sw_false {x : Expr} {nm : Str} {p : Pos} {l : Nat} {env : PySem.Env} (h : isComp x = false) : swapsWith x (some (.Name nm p)) l env = pure false := by
  unfold swapsWith
  cases x <;> first | rfl | cases h
theorem sw_falseT {x : Expr} {es : List Expr} {k : Nat} {p : Pos} {l : Nat} {env : PySem.Env} : swapsWith x (some (.Tuple es k p)) l env = pure false := by
  unfold swapsWith
  cases x <;> rfl
theorem sw_call {x : Expr} {l : Nat} {env : PySem.Env} (h : isCallE x = true) : swapsWith x none l env = pure false := by
  unfold swapsWith
  cases x <;> first | rfl | cases h
theorem swap_none {es : List Expr} {k : Nat} {p : Pos} {x : Expr} {env : PySem.Env} (h : isTupE x = false) : swappedStores [.Tuple es k p] x env = pure none := by
  unfold swappedStores
  cases x <;> first | rfl | cases h
theorem if_off {α : Type} {b : Bool} {x y z : α} (h : b = false) (e : y = z) : (if b = true then x else y) = z := by subst h; exact e
theorem swap2 {u v : Str} {px py pt pt2 : Pos} {kt k2 : Nat} {x y : Expr} {env : PySem.Env} (hk : env.scope.kind = .function) (hu : env.scope.names.lookup u = some .local) (hv : env.scope.names.lookup v = some .local) (hl : (py.line == px.line) = true) (huv : u ≠ v)
    (h1 : notStar x = true) (h2 : notStar y = true) (h3 : [x, y].all (foldedForSure 8) = false) (h4 : [x, y].all (constantsAlone 8) = false) :
    swappedStores [.Tuple [.Name u px, .Name v py] kt pt] (.Tuple [x, y] k2 pt2) env = pure (some [u, v]) := by
  have hb : env.blockKind = .function := by unfold Env.blockKind; rw [hk]; rfl
  have ku : env.kindOf u = some .local := hu
  have kv : env.kindOf v = some .local := hv
  have hs : ([x, y].any fun | .Starred .. => true | _ => false) = false := by
    cases x <;> first | (cases h1; done) | skip
    all_goals cases y <;> first | (cases h2; done) | rfl
  have he : ([u, v] : List Str).eraseDups = [u, v] := by
    have : (v == u) = false := by simpa using fun z => huv z.symm
    simp [List.eraseDups_cons, this]
  unfold swappedStores
  simp only [List.length_cons, List.length_nil, hb, h3, h4, Expr.pos, List.head?_cons, Option.map_some, Option.getD_some, List.filterMap_cons, List.filterMap_nil, ku, kv, hl, beq_self_eq_true, Bool.and_self, if_true, he]
  exact if_off rfl (if_off hs rfl)
theorem swap3 {u v w : Str} {px py pz pt pt2 : Pos} {kt k2 : Nat} {x y z : Expr} {env : PySem.Env} (hk : env.scope.kind = .function) (hu : env.scope.names.lookup u = some .local) (hv : env.scope.names.lookup v = some .local) (hw : env.scope.names.lookup w = some .local)
    (hl : (py.line == px.line) = true) (hl2 : (pz.line == px.line) = true) (huv : u ≠ v) (huw : u ≠ w) (hvw : v ≠ w)
    (h1 : notStar x = true) (h2 : notStar y = true) (h2' : notStar z = true) (h3 : [x, y, z].all (foldedForSure 8) = false) (h4 : [x, y, z].all (constantsAlone 8) = false) :
    swappedStores [.Tuple [.Name u px, .Name v py, .Name w pz] kt pt] (.Tuple [x, y, z] k2 pt2) env = pure (some [u, v, w]) := by
  have hb : env.blockKind = .function := by unfold Env.blockKind; rw [hk]; rfl
  have ku : env.kindOf u = some .local := hu
  have kv : env.kindOf v = some .local := hv
  have kw : env.kindOf w = some .local := hw
  have st : ∀ e : Expr, notStar e = true → (match e with | .Starred .. => true | _ => false) = false := fun e h => by cases e <;> first | rfl | cases h
  have hs : ([x, y, z].any fun | .Starred .. => true | _ => false) = false := by
    simp only [List.any_cons, List.any_nil, Bool.or_false, Bool.or_eq_false_iff]
    exact ⟨st x h1, st y h2, st z h2'⟩
  have he : ([u, v, w] : List Str).eraseDups = [u, v, w] := by
    have a : (v == u) = false := by simpa using fun z => huv z.symm
    have b : (w == u) = false := by simpa using fun z => huw z.symm
    have c : (w == v) = false := by simpa using fun z => hvw z.symm
    simp [List.eraseDups_cons, a, b, c]
  unfold swappedStores
  simp only [List.length_cons, List.length_nil, hb, h3, h4, Expr.pos, List.head?_cons, Option.map_some, Option.getD_some, List.filterMap_cons, List.filterMap_nil, ku, kv, kw, hl, hl2, beq_self_eq_true, Bool.and_self, if_true, he]
  exact if_off rfl (if_off hs rfl)
theorem sw_cell {x : Expr} {nm : Str} {p : Pos} {l : Nat} {env : PySem.Env} (h : env.scope.names.lookup nm = some .cell) : swapsWith x (some (.Name nm p)) l env = pure false := by
  have kn : env.kindOf nm = some .cell := h
  unfold swapsWith
  cases x <;> first | rfl | (simp only [kn]; rw [show ((some NameKind.cell : Option NameKind) == some .local) = false from rfl]; simp)
theorem hasCell_short (env : PySem.Env) (ln : Nat) : ∀ {es : List Expr}, hasCell env.scope es = true → (es.filterMap fun | .Name id pos => if env.kindOf id == some .local && pos.line == ln then some id else none | _ => none).length < es.length
  | [], h => by cases h
  | e :: es, h => by
    simp only [hasCell, Bool.or_eq_true] at h
    rw [List.filterMap_cons]
    have le := List.length_filterMap_le (fun (x : Expr) => match x with | .Name id pos => if env.kindOf id == some .local && pos.line == ln then some id else none | _ => none) es
    rcases h with h | h
    · split at h
      · rename_i x p q
        have := vName_eq q
        subst this
        have kn : env.kindOf x = some .cell := of_decide_eq_true h
        simp only [kn]
        rw [show ((some NameKind.cell : Option NameKind) == some .local) = false from rfl]
        simp only [Bool.false_and, Bool.false_eq_true, if_false, List.length_cons]
        exact Nat.lt_succ_of_le le
      · cases h
    · have ih := hasCell_short env ln h
      split
      · simp only [List.length_cons]; omega
      · simp only [List.length_cons]; omega
theorem swap_cell {es xs : List Expr} {k k2 : Nat} {p p2 : Pos} {env : PySem.Env} (h : hasCell env.scope es = true) : swappedStores [.Tuple es k p] (.Tuple xs k2 p2) env = pure none := by
  have := hasCell_short env ((es.head?.map (·.pos.line)).getD 0) h
  unfold swappedStores
  simp only
  split
  · rfl
  · split
    · rfl
    · rw [if_pos]
      simp only [Bool.or_eq_true, bne_iff_ne, ne_eq]
      exact .inl (Nat.ne_of_lt this)
theorem ts_names : ∀ {ts : Ts} {is : List Nat}, tsNames ts = some is → ts = namesT is
  | .nil, is, h => by cases h; rfl
  | .cons (.nm i) ts, is, h => by
    simp only [tsNames] at h
    obtain ⟨js, h1, h2⟩ := Option.map_eq_some_iff.mp h
    subst h2
    rw [ts_names h1]
    rfl
  | .cons (.ix i e) ts, is, h => by cases h
theorem namesL_one {ln : Nat} {e : Expr} {es : List Expr} (h : namesL sc ln (e :: es) = true) : ∃ x p, e = .Name x p ∧ sc.names.lookup x = some .local ∧ (p.line == ln) = true ∧ namesL sc ln es = true := by
  simp only [namesL, Bool.and_eq_true] at h
  obtain ⟨h1, h2⟩ := h
  split at h1
  · rename_i x p q
    simp only [Bool.and_eq_true, decide_eq_true_eq] at h1
    exact ⟨x, p, vName_eq q, h1.1, h1.2, h2⟩
  · cases h1
theorem slotsL_one {is : List Nat} {x : Str} {p : Pos} {es : List Expr} (h : slotsL M is (.Name x p :: es) = true) : ∃ i js, is = i :: js ∧ M.N[i]? = some x ∧ slotsL M js es = true := by
  cases is with
  | nil => cases h
  | cons i js =>
    simp only [slotsL, vName, Bool.and_eq_true, decide_eq_true_eq] at h
    exact ⟨i, js, rfl, h.1, h.2⟩
theorem nd_ne {N : List Str} (nd : N.Nodup) {i j : Nat} {u v : Str} (h1 : N[i]? = some u) (h2 : N[j]? = some v) (h : i ≠ j) : u ≠ v := fun e => by
  subst e
  obtain ⟨a, b⟩ := List.getElem?_eq_some_iff.mp h1
  obtain ⟨c, d⟩ := List.getElem?_eq_some_iff.mp h2
  exact h ((List.getElem_inj nd).mp (b.trans d.symm))
end
section
variable (M : MC) (C : Ctx) (pa : List Addr)
def SdS (s : S) : Prop := ∀ X sc fnb st, XOk M C sc fnb X → sc.kind = .function → PassesOwn (model X.prog X.w) X.A X.env X.xe → mS M sc fnb s st = true → PS X st (tS X.K pa (evS C s))
def SdSs (ss : Ss) : Prop := ∀ X sc fnb sts, XOk M C sc fnb X → sc.kind = .function → PassesOwn (model X.prog X.w) X.A X.env X.xe → mSs M sc fnb ss sts = true → PSs X sts (tS X.K pa (evSs C ss))
end
section
variable {M : MC} {C : Ctx} {pa : List Addr}
theorem evP_len : ∀ {es : Es} {ρ ρ' : Env} {ds : List RV}, evP C es ρ = some (ds, ρ') → ds.length = es.len
  | .nil, _, _, _, e => by simp only [evP] at e; cases e; rfl
  | .cons a as, ρ, ρ', ds, e => by
    simp only [evP] at e
    obtain ⟨p, _, e⟩ := Option.bind_eq_some_iff.mp e
    obtain ⟨r, ρ1⟩ := p
    cases r with
    | pk i =>
      simp only at e
      obtain ⟨z, _, e⟩ := Option.bind_eq_some_iff.mp e
      obtain ⟨q, e2, e⟩ := Option.bind_eq_some_iff.mp e
      cases e
      simp [Es.len, evP_len e2]
    | sh d =>
      simp only at e
      obtain ⟨q, e2, e⟩ := Option.bind_eq_some_iff.mp e
      cases e
      simp [Es.len, evP_len e2]
    | fr d =>
      simp only at e
      obtain ⟨q, e2, e⟩ := Option.bind_eq_some_iff.mp e
      cases e
      simp [Es.len, evP_len e2]
theorem _root_.PI.PVs.len {K : PySem.W.Frag} {H0 F H : Hp} : ∀ {vs : List V} {rs : List RV} {la : List Addr}, PVs K H0 F H vs rs la → vs.length = rs.length
  | _, _, _, .nil => rfl
  | _, _, _, .sh h t => by simp [PVs.len t]
  | _, _, _, .fr h1 h2 h3 h4 t => by simp [PVs.len t]
theorem y_expr (e : E) : SdS M C pa (.expr e) := fun X sc fnb st x hk hp m => by
  simp only [mS] at m
  split at m
  · rename_i y q
    obtain ⟨p, rfl⟩ := vExpr_eq q
    simp only [Bool.and_eq_true] at m
    exact d_expr (sw_call m.1) (fun y p z => by subst z; cases m.1) ((sndE e).1 X sc fnb _ x m.2) fun h => ps_expr h (sw_call m.1)
  · cases m
theorem set_bad {i : Nat} {X : Cx} {st : Stmt} : PS X st (tS X.K pa (evS C (.set (.nm i) .bad))) := ⟨fun pn s σ H Dn I ⟨F, ρ, fl, ρ', R, e, q⟩ => by simp only [evS, evE] at e; cases e⟩
theorem y_set (t : T1) (e : E) : SdS M C pa (.set t e) := fun X sc fnb st x hk hp m => by
  simp only [mS] at m
  split at m
  · rename_i tx y p q
    have := vAsg_eq q
    subst this
    simp only [Bool.and_eq_true] at m
    obtain ⟨m1, m2⟩ := m
    cases t with
    | nm i =>
      simp only at m2
      split at m2
      · rename_i nm np q2
        have := vName_eq q2
        subst this
        simp only [Bool.and_eq_true, Bool.or_eq_true, Bool.not_eq_true', decide_eq_true_eq] at m2
        obtain ⟨m3, m4⟩ := m2
        obtain ⟨g1, g2, g3⟩ := x.tgt m3
        rcases m4 with (m4 | m4) | m4
        rotate_right
        · exact d_set (ps_set x.ndX g1 g2 ((sndE e).1 X sc fnb _ x m1) (sw_cell (by rw [x.sc]; exact m4)) g3) fun σ H Q h => h
        · exact d_set (ps_set x.ndX g1 g2 ((sndE e).1 X sc fnb _ x m1) (sw_false m4) g3) fun σ H Q h => h
        · have hcp : isComp y = true := by cases y <;> first | rfl | cases m4
          have hk' : X.env.scope.kind = .function := by rw [x.sc]; exact hk
          rcases comp_of hcp m1 with ⟨a, tg, it, f, rfl⟩ | ⟨kk, vv, tg, it, f, rfl⟩ | rfl
          · simp only [mE] at m1
            split at m1
            · rename_i ex tx ix fx s q3
              obtain ⟨k, rfl⟩ := vLC_eq q3
              simp only [Bool.and_eq_true, decide_eq_true_eq] at m1
              obtain ⟨⟨⟨⟨⟨⟨h1, h2⟩, h3⟩, h4⟩, h5⟩, h6⟩, h7⟩ := m1
              obtain ⟨p1, p2⟩ := comp_parts (pa := pa) x (sndEs f) h4 h6
              have ok : BlkOk X.N X.env.scope s (ownOf M.N tg) := by rw [x.N, x.sc]; exact blkOk_by h1
              simp only [swB, Bool.and_eq_true, decide_eq_true_eq, Bool.not_eq_true'] at m4
              obtain ⟨⟨w1, w2⟩, w3⟩ := m4
              have w1' : X.env.scope.names.lookup nm = some .local := by rw [x.sc]; exact w1
              refine d_set (ps_setLc x.calm x.ndX g1 w1' (sw_true hk' w1' w2 w3) ((sndI (C := C) (pa := pa) it).1 X sc fnb _ _ x h5) ok p1 p2 (elt_part x (sndE (C := C) (pa := pa) a).1 h7) (fold_set h3)) fun σ H Q h => ?_
              rw [h2]
              exact lc_reading h
            · cases m1
          · simp only [mE] at m1
            split at m1
            · rename_i ek ev tx ix fx s q3
              obtain ⟨k, rfl⟩ := vDC_eq q3
              simp only [Bool.and_eq_true, decide_eq_true_eq] at m1
              obtain ⟨⟨⟨⟨⟨⟨⟨h1, h2⟩, h3⟩, h4⟩, h5⟩, h6⟩, h7⟩, h8⟩ := m1
              obtain ⟨p1, p2⟩ := comp_parts (pa := pa) x (sndEs f) h4 h6
              have ok : BlkOk X.N X.env.scope s (ownOf M.N tg) := by rw [x.N, x.sc]; exact blkOk_by h1
              simp only [swB, Bool.and_eq_true, decide_eq_true_eq, Bool.not_eq_true'] at m4
              obtain ⟨⟨w1, w2⟩, w3⟩ := m4
              have w1' : X.env.scope.names.lookup nm = some .local := by rw [x.sc]; exact w1
              refine d_set (ps_setDcA (by have := x.hu; omega) x.calm x.ndX g1 w1' (sw_trueD hk' w1' w2 w3) ((sndI (C := C) (pa := pa) it).1 X sc fnb _ _ x h5) ok p1 p2 (elt_part x (sndE (C := C) (pa := pa) kk).1 h7) (elt_part x (sndE (C := C) (pa := pa) vv).1 h8) (fold_set h3)) fun σ H Q h => ?_
              rw [h2]
              exact dc_reading h
            · cases m1
          · exact set_bad
      · cases m2
    | ix i k =>
      simp only at m2
      split at m2
      · rename_i o z q2
        obtain ⟨p3, rfl⟩ := vSub_eq q2
        simp only [Bool.and_eq_true] at m2
        obtain ⟨⟨h1, h2⟩, h3⟩ := m2
        split at h2
        · rename_i nm np q4
          have := vName_eq q4
          subst this
          exact d_ix (by have := x.hu; omega) h1 (x.pv h2) ((sndE e).1 X sc fnb _ x m1) ((sndE k).1 X sc fnb _ x h3)
        · cases h2
      · cases m2
  · cases m
theorem d_parC {is : List Nat} {es : Es} {tsx xs : List Expr} {k1 k2 : Nat} {p1 p2 pos : Pos} {X : Cx} (hc : X.calm = true) (hN : X.N.Nodup) (h : IsNms X is tsx) (hl : es.len ≤ 1000) (hcell : hasCell X.env.scope tsx = true)
    (ha : PA X xs (tPV X.K pa (evP C es))) : PS X (.Assign [.Tuple tsx k1 p1] (.Tuple xs k2 p2) pos) (tS X.K pa (evS C (.par (namesT is) es))) := by
  obtain ⟨n1, n2⟩ := nms_len (env := X.env) h
  refine ps_imp (ps_asg (pe_tup ha) (pg_tup hc (pgs_nms hN h) n1 n2) (show swapsWith (.Tuple xs k2 p2) (some (.Tuple tsx k1 p1)) pos.line X.env = pure false from sw_falseT) (swap_cell hcell) rfl) fun Dn σ H ⟨F, ρ, fl, ρ', R, e, q⟩ => ?_
  simp only [evS] at e
  obtain ⟨p, e1, e2⟩ := Option.bind_eq_some_iff.mp e
  obtain ⟨ρ2, e3, e4⟩ := Option.map_eq_some_iff.mp e2
  cases e4
  refine ⟨F, ρ, p.1, p.2, R, e1, fun vs la F1 H1 R1 s1 w1 => ?_⟩
  obtain ⟨q1, q2, q3⟩ := putN_ok (ρ := ρ) (σ := σ) (O := Own ρ σ) R1 s1.stp w1 (fun a m z => R.there (s1.less a z) (w1.none a m)) e3
  have hz : sizeLine = 16777216 := sizeLine_eq
  have hlen : vs.length ≤ 1000 := by rw [w1.len, evP_len e1]; exact hl
  refine ⟨by omega, fun a n => ⟨a, vs, rfl, .inl (.inl upd_same), q3, q3, ?_⟩⟩
  exact q _ F1 _ (q1.alloc n) (q2.trans (.alloc n))
theorem y_par (ts : Ts) (es : Es) : SdS M C pa (.par ts es) := fun X sc fnb st x hk hp m => by
  simp only [mS] at m
  split at m
  rotate_left
  · cases m
  rename_i tx y p q
  have := vAsg_eq q
  subst this
  split at m
  rotate_left
  · cases m
  rename_i tsx xs is q1 q2 q3
  obtain ⟨k1, p1, rfl⟩ := vTup_eq q1
  obtain ⟨k2, p2, rfl⟩ := vTup_eq q2
  have := ts_names q3
  subst this
  simp only [Bool.and_eq_true, Bool.or_eq_true, decide_eq_true_eq, Bool.not_eq_true'] at m
  rcases m with ⟨⟨⟨h1, h0⟩, h2⟩, h3⟩ | m
  · obtain ⟨_, g2, _, _, g5⟩ := (sndEs (M := M) (C := C) (pa := pa) es).1 X sc fnb _ x h1
    exact d_parC x.calm x.ndX (mNms_ok x h2) (by rw [← g2]; exact h0) (by rw [x.sc]; exact h3) g5
  obtain ⟨⟨⟨⟨⟨⟨⟨h1, h2⟩, h3⟩, h4⟩, h5⟩, h6⟩, h7⟩, h8⟩ := m
  obtain ⟨g1, _, _, _, g5⟩ := (sndEs (M := M) (C := C) (pa := pa) es).1 X sc fnb _ x h1
  have hk' : X.env.scope.kind = .function := by rw [x.sc]; exact hk
  rcases h5 with h5 | h5
  · match tsx, h5, xs, h6 with
    | [t1, t2], _, [u1, u2], _ =>
      obtain ⟨n1, r1, rfl, l1, e1, h2⟩ := namesL_one h2
      obtain ⟨n2, r2, rfl, l2, e2, _⟩ := namesL_one h2
      obtain ⟨i, js, rfl, s1, h3⟩ := slotsL_one h3
      obtain ⟨j, js, rfl, s2, h3⟩ := slotsL_one h3
      cases js with
      | cons _ _ => cases h3
      | nil =>
        have hij : i ≠ j := by simpa using h4
        simp only [List.all_cons, List.all_nil, Bool.and_true, Bool.and_eq_true] at g1
        rw [← x.sc] at l1 l2
        exact d_par2 x.calm x.ndX (by rw [x.N]; exact s1) (by rw [x.N]; exact s2) hij l1 l2 g5 (swap2 hk' l1 l2 e2 (nd_ne x.nd s1 s2 hij) g1.1 g1.2 h7 h8)
  · match tsx, h5, xs, h6 with
    | [t1, t2, t3], _, [u1, u2, u3], _ =>
      obtain ⟨n1, r1, rfl, l1, e1, h2⟩ := namesL_one h2
      obtain ⟨n2, r2, rfl, l2, e2, h2⟩ := namesL_one h2
      obtain ⟨n3, r3, rfl, l3, e3, _⟩ := namesL_one h2
      obtain ⟨i, js, rfl, s1, h3⟩ := slotsL_one h3
      obtain ⟨j, js, rfl, s2, h3⟩ := slotsL_one h3
      obtain ⟨l, js, rfl, s3, h3⟩ := slotsL_one h3
      cases js with
      | cons _ _ => cases h3
      | nil =>
        have hd : (i ≠ j ∧ i ≠ l) ∧ j ≠ l := by simpa using h4
        simp only [List.all_cons, List.all_nil, Bool.and_true, Bool.and_eq_true] at g1
        rw [← x.sc] at l1 l2 l3
        exact d_par3 x.calm x.ndX (by rw [x.N]; exact s1) (by rw [x.N]; exact s2) (by rw [x.N]; exact s3) hd.1.1 hd.1.2 hd.2 l1 l2 l3 g5
          (swap3 hk' l1 l2 l3 e2 e3 (nd_ne x.nd s1 s2 hd.1.1) (nd_ne x.nd s1 s3 hd.1.2) (nd_ne x.nd s2 s3 hd.2) g1.1 g1.2.1 g1.2.2 h7 h8)
theorem y_unp (is : List Nat) (e : E) : SdS M C pa (.unp is e) := fun X sc fnb st x hk hp m => by
  simp only [mS] at m
  split at m
  · rename_i tx y p q
    have := vAsg_eq q
    subst this
    split at m
    · rename_i tsx q2
      obtain ⟨k1, p1, rfl⟩ := vTup_eq q2
      simp only [Bool.and_eq_true, Bool.not_eq_true'] at m
      obtain ⟨⟨⟨m1, m2⟩, m3⟩, m4⟩ := m
      have he := (sndE (M := M) (C := C) (pa := pa) e).1 X sc fnb _ x m4
      exact d_unp he (ps_asg he (g_tp x.calm x.ndX (mNms_ok x m1)) (show swapsWith y (some (.Tuple tsx k1 p1)) p.line X.env = pure false from sw_falseT) (swap_none m2) rfl)
    · cases m
  · cases m
theorem y_aug (i : Nat) (o : Op2) (e : E) : SdS M C pa (.aug i o e) := fun X sc fnb st x hk hp m => by
  simp only [mS] at m
  split at m
  · rename_i t op y q
    obtain ⟨p, rfl⟩ := vAug_eq q
    simp only [Bool.and_eq_true, Bool.or_eq_true, decide_eq_true_eq] at m
    obtain ⟨⟨⟨m1, rfl⟩, m3⟩, m4⟩ := m
    split at m1
    · rename_i nm np q2
      have := vName_eq q2
      subst this
      obtain ⟨g1, g2, g3⟩ := x.tgt m1
      exact d_aug x.ndX g1 g2 m3 g3 ((sndE e).1 X sc fnb _ x m4)
    · cases m1
  · cases m
end
mutual
theorem sndS {M : MC} {C : Ctx} {pa : List Addr} : ∀ s : S, SdS M C pa s
  | .expr e => y_expr e
  | .set t e => y_set t e
  | .par ts es => y_par ts es
  | .unp is e => y_unp is e
  | .aug i o e => y_aug i o e
  | .iff c a b => fun X sc fnb st x hk hp m => by
    simp only [mS] at m
    split at m
    · rename_i z u v q
      obtain ⟨p, rfl⟩ := vIfS_eq q
      simp only [Bool.and_eq_true] at m
      exact d_if ((sndE c).2 X sc fnb _ x m.1.1).1 (sndSs a X sc fnb _ x hk hp m.1.2) (sndSs b X sc fnb _ x hk hp m.2)
    · cases m
  | .for tg it ss => fun X sc fnb st x hk hp m => by
    simp only [mS] at m
    split at m
    · rename_i tx ix b q
      obtain ⟨p, rfl⟩ := vFor_eq q
      simp only [Bool.and_eq_true] at m
      exact d_for m.1.1.1 hp x.calm ((sndI it).1 X sc fnb _ _ x m.1.2) (mTg_ok x m.1.1.2) (sndSs ss X sc fnb _ x hk hp m.2)
    · cases m
  | .whl c ss => fun X sc fnb st x hk hp m => by
    simp only [mS] at m
    split at m
    · rename_i y b q
      obtain ⟨p, rfl⟩ := vWhl_eq q
      simp only [Bool.and_eq_true] at m
      exact d_whl hp ((sndE c).2 X sc fnb _ x m.1).1 (sndSs ss X sc fnb _ x hk hp m.2)
    · cases m
  | .ret e => fun X sc fnb st x hk hp m => by
    simp only [mS] at m
    split at m
    · rename_i y q
      obtain ⟨p, rfl⟩ := vRet_eq q
      exact d_ret ((sndE e).1 X sc fnb _ x m)
    · cases m
  | .retN => fun X sc fnb st x hk hp m => by
    simp only [mS] at m
    split at m
    · rename_i q
      obtain ⟨p, rfl⟩ := vRet_eq q
      exact d_retN
    · cases m
  | .pass => fun X sc fnb st x hk hp m => by
    simp only [mS] at m
    obtain ⟨p, rfl⟩ := vPass_eq m
    exact d_pass
  | .bad => fun X sc fnb st x hk hp m => d_bad
  | .wipe is => fun X sc fnb st x hk hp m => by simp [mS] at m
theorem sndSs {M : MC} {C : Ctx} {pa : List Addr} : ∀ ss : Ss, SdSs M C pa ss
  | .nil => fun X sc fnb sts x hk hp m => by
    simp only [mSs, List.isEmpty_iff] at m
    subst m
    exact d_nil
  | .cons s ss => fun X sc fnb sts x hk hp m => by
    simp only [mSs] at m
    split at m
    · rename_i hw
      cases s with
      | wipe is => exact d_wipe (sndSs ss X sc fnb _ x hk hp m)
      | _ => cases hw
    · split at m
      · simp only [Bool.and_eq_true] at m
        exact d_cons (sndS s X sc fnb _ x hk hp m.1) (sndSs ss X sc fnb _ x hk hp m.2)
      · cases m
end
end PI

set_option Elab.async false
set_option linter.all false
set_option maxRecDepth 100000
set_option maxHeartbeats 4000000
/-! PIv: defs that call one another. -/
namespace PI
set_option autoImplicit false
open PySem PySem.Spec PySem.W L2
open PyProof.Rows hiding St

/-- a def: its name, its slots' names, its parameters, its text, mine -/
structure Df where
  nm : Str
  N : List Str
  ps : List Str
  st : Stmt
  body : Ss
def Df.fd (e : Df) : Fd := ⟨e.ps.length, e.N.length, e.body⟩
def namesOf (tb : List Df) : List Str := tb.map (·.nm)
def fnsOf (tb : List Df) : List Fd := tb.map Df.fd

section
variable {K : PySem.W.Frag} {F H : Hp}
theorem ArgV.len : ∀ {vs : List V} {as : List Ar} {la : List Addr}, ArgV K F H vs as la → vs.length = as.length
  | _, _, _, .nil => rfl
  | _, _, _, .sh _ t => by simp [ArgV.len t]
  | _, _, _, .io _ _ t => by simp [ArgV.len t]
theorem args_sh : ∀ {vs : List V} {as : List Ar} {la : List Addr}, ArgV K F H vs as la → ∀ {k i : Nat} {d : D}, (argSlots as k)[i]? = some (.sh d) → ∃ v, vs[i]? = some v ∧ DP K F v d
  | _, _, _, .nil, k, i, d, e => by simp [argSlots] at e
  | _, _, _, .sh h t, k, 0, d, e => by simp [argSlots] at e; subst e; exact ⟨_, rfl, h⟩
  | _, _, _, .sh h t, k, i + 1, d, e => by
    simp only [argSlots, List.getElem?_cons_succ] at e
    obtain ⟨v, h1, h2⟩ := args_sh t e
    exact ⟨v, by simpa using h1, h2⟩
  | _, _, _, .io _ _ t, k, 0, d, e => by simp [argSlots] at e
  | _, _, _, .io _ _ t, k, i + 1, d, e => by
    simp only [argSlots, List.getElem?_cons_succ] at e
    obtain ⟨v, h1, h2⟩ := args_sh t e
    exact ⟨v, by simpa using h1, h2⟩
theorem args_ow : ∀ {vs : List V} {as : List Ar} {la : List Addr}, ArgV K F H vs as la → ∀ {k i : Nat} {t : Option Nat} {d : D}, (argSlots as k)[i]? = some (.ow t d) → ∃ (a : Addr) (j : Nat), vs[i]? = some (.ref a) ∧ t = some (k + j) ∧ la[j]? = some a ∧ F a = none ∧ Top K F H a d
  | _, _, _, .nil, k, i, t, d, e => by simp [argSlots] at e
  | _, _, _, .sh h q, k, 0, t, d, e => by simp [argSlots] at e
  | _, _, _, .sh h q, k, i + 1, t, d, e => by
    simp only [argSlots, List.getElem?_cons_succ] at e
    obtain ⟨a, j, h1, h2, h3, h4, h5⟩ := args_ow q e
    exact ⟨a, j, by simpa using h1, h2, h3, h4, h5⟩
  | _, _, _, .io h1 h2 q, k, 0, t, d, e => by
    simp [argSlots] at e
    obtain ⟨rfl, rfl⟩ := e
    exact ⟨_, 0, rfl, rfl, rfl, h1, h2⟩
  | _, _, _, .io _ _ q, k, i + 1, t, d, e => by
    simp only [argSlots, List.getElem?_cons_succ] at e
    obtain ⟨a, j, h1, h2, h3, h4, h5⟩ := args_ow q e
    exact ⟨a, j + 1, by simpa using h1, by rw [h2]; congr 1; omega, by simpa using h3, h4, h5⟩
theorem args_low : ∀ {as : List Ar} {k i m : Nat} {d : D}, (argSlots as k)[i]? = some (.ow (some m) d) → k ≤ m
  | [], k, i, m, d, e => by simp [argSlots] at e
  | .sh _ :: r, k, 0, m, d, e => by simp [argSlots] at e
  | .sh _ :: r, k, i + 1, m, d, e => by simp only [argSlots, List.getElem?_cons_succ] at e; exact args_low e
  | .io _ :: r, k, 0, m, d, e => by simp [argSlots] at e; omega
  | .io _ :: r, k, i + 1, m, d, e => by simp only [argSlots, List.getElem?_cons_succ] at e; have := args_low e; omega
theorem args_one : ∀ {as : List Ar} {k i j m : Nat} {d e : D}, (argSlots as k)[i]? = some (.ow (some m) d) → (argSlots as k)[j]? = some (.ow (some m) e) → i = j
  | [], k, i, j, m, d, e, h1, h2 => by simp [argSlots] at h1
  | .sh _ :: r, k, 0, j, m, d, e, h1, h2 => by simp [argSlots] at h1
  | .sh _ :: r, k, i + 1, 0, m, d, e, h1, h2 => by simp [argSlots] at h2
  | .sh _ :: r, k, i + 1, j + 1, m, d, e, h1, h2 => by
    simp only [argSlots, List.getElem?_cons_succ] at h1 h2
    rw [args_one h1 h2]
  | .io _ :: r, k, 0, 0, m, d, e, h1, h2 => rfl
  | .io _ :: r, k, 0, j + 1, m, d, e, h1, h2 => by
    simp [argSlots] at h1
    simp only [argSlots, List.getElem?_cons_succ] at h2
    have := args_low h2
    omega
  | .io _ :: r, k, i + 1, 0, m, d, e, h1, h2 => by
    simp [argSlots] at h2
    simp only [argSlots, List.getElem?_cons_succ] at h1
    have := args_low h1
    omega
  | .io _ :: r, k, i + 1, j + 1, m, d, e, h1, h2 => by
    simp only [argSlots, List.getElem?_cons_succ] at h1 h2
    rw [args_one h1 h2]
theorem args_len : ∀ (as : List Ar) (k : Nat), (argSlots as k).length = as.length
  | [], _ => rfl
  | .sh _ :: r, k => by simp [argSlots, args_len r]
  | .io _ :: r, k => by simp [argSlots, args_len r]
theorem rep_get {α : Type} {n i : Nat} {x y : α} (h : (List.replicate n x)[i]? = some y) : y = x := by
  have := List.mem_of_getElem? h
  exact (List.mem_replicate.mp this).2
/-- the slots at a def's start -/
theorem rel_start {vs : List V} {as : List Ar} {la : List Addr} (a : ArgV K F H vs as la) (sb : Sub F H) (nd : la.Nodup) {N : List Str} (hl : as.length ≤ N.length) :
    Rel K la (startE N.length as) (L2.start N vs) F H ∧ ∀ b, Own (startE N.length as) (L2.start N vs) b → b ∈ la := by
  have len := a.len
  have gS : ∀ (i : Nat) (s : Sl), (startE N.length as)[i]? = some s → s ≠ .un → (argSlots as 0)[i]? = some s := fun i s e hs => by
    unfold startE at e
    by_cases hi : i < as.length
    · rw [List.getElem?_append_left (by rw [args_len]; exact hi)] at e
      exact e
    · rw [List.getElem?_append_right (by rw [args_len]; omega)] at e
      exact absurd (rep_get e) hs
  have gV : ∀ (i : Nat) (v : V), vs[i]? = some v → (L2.start N vs)[i]? = some (some v) := fun i v e => by
    have hi := (List.getElem?_eq_some_iff.mp e).1
    unfold L2.start
    rw [List.getElem?_append_left (by simpa using hi), List.getElem?_map, e]
    rfl
  refine ⟨⟨by unfold startE L2.start; simp [args_len]; omega, sb, fun i d e => ?_, fun i t d e => ?_, fun i j t u d e b h1 h2 v1 v2 => ?_⟩, fun b ⟨i, t, d, e1, e2⟩ => ?_⟩
  · obtain ⟨v, h1, h2⟩ := args_sh a (gS i _ e nofun)
    exact ⟨v, gV i v h1, h2⟩
  · obtain ⟨b, j, h1, h2, h3, h4, h5⟩ := args_ow a (gS i _ e nofun)
    refine ⟨b, gV i _ h1, h4, h5, fun k hk => ?_⟩
    rw [h2] at hk
    cases hk
    rw [Nat.zero_add]; exact h3
  · have q1 := gS i _ h1 nofun
    have q2 := gS j _ h2 nofun
    obtain ⟨b1, j1, z1, z2, z3, _⟩ := args_ow a q1
    obtain ⟨b2, j2, y1, y2, y3, _⟩ := args_ow a q2
    rw [gV i _ z1] at v1
    rw [gV j _ y1] at v2
    cases v1
    cases v2
    have : j1 = j2 := by
      obtain ⟨w1, w2⟩ := List.getElem?_eq_some_iff.mp z3
      obtain ⟨w3, w4⟩ := List.getElem?_eq_some_iff.mp y3
      exact (List.getElem_inj nd).mp (w2.trans w4.symm)
    subst this
    subst z2 y2
    exact args_one q1 q2
  · obtain ⟨b', j, h1, h2, h3, _⟩ := args_ow a (gS i _ e1 nofun)
    rw [gV i _ h1] at e2
    cases e2
    exact List.mem_of_getElem? h3
/-- what the lent objects hold at the end -/
theorem end_outs {pa : List Addr} {ρ : Env} {σ : St} (R : Rel K pa ρ σ F H) : ∀ {vs : List V} {as : List Ar} {la : List Addr} {F0 H0 : Hp}, ArgV K F0 H0 vs as la → ∀ {p k : Nat} {os : List D}, endOuts ρ as p k = some os → (∀ j a, la[j]? = some a → pa[k + j]? = some a) →
    Outs K F H la os ∧ ∀ (j : Nat) (a : Addr), la[j]? = some a → ∃ (q : Nat) (d : D), ρ[q]? = some (.ow (some (k + j)) d) ∧ σ[q]? = some (some (.ref a))
  | _, _, _, F0, H0, .nil, p, k, os, e, hp => by simp only [endOuts] at e; cases e; exact ⟨.nil, fun j a h => by simp at h⟩
  | _, _, _, F0, H0, .sh _ t, p, k, os, e, hp => by simp only [endOuts] at e; exact end_outs R t e hp
  | _, _, _, F0, H0, .io (a := a0) h1 h2 t, p, k, os, e, hp => by
    simp only [endOuts] at e
    split at e
    · rename_i k' d q
      split at e
      · rename_i hk
        subst hk
        obtain ⟨os', e1, e2⟩ := Option.map_eq_some_iff.mp e
        subst e2
        obtain ⟨b, g1, g2, g3, g4⟩ := R.ow p _ d (at_some q nofun)
        have := g4 _ rfl
        have h0 := hp 0 a0 rfl
        rw [Nat.add_zero, this] at h0
        cases h0
        obtain ⟨o1, o2⟩ := end_outs R t e1 fun j a h => by have := hp (j + 1) a (by simpa using h); rw [show k' + 1 + j = k' + (j + 1) by omega]; exact this
        refine ⟨.cons g2 g3 o1, fun j a h => ?_⟩
        cases j with
        | zero =>
          simp at h
          subst h
          exact ⟨p, d, at_some q nofun, g1⟩
        | succ j =>
          obtain ⟨w, d2, w1, w2⟩ := o2 j a (by simpa using h)
          exact ⟨w, d2, by rw [show k' + (j + 1) = k' + 1 + j by omega]; exact w1, w2⟩
      · cases e
    · cases e
end

section
variable {P : Program} {w : World} {K : PySem.W.Frag} {mg : Str → Option Value} {base : Heap}
/-- all defs do as their texts of mine do, to any depth -/
theorem all_ok0 {tb : List Df} {GC : List (Str × D)} (fuel : Nat) (FA : Nat → Addr) (FD : Nat → FuncData) (hF : ∀ (f : Nat) (e : Df), tb[f]? = some e → Fun K e.nm e.nm e.st (FA f) (FD f) ∧ mg e.nm = some (.ref (FA f)) ∧ ∀ us : List Value, us.length = e.ps.length → bindArgs (FD f) ⟨us, []⟩ = pure (e.ps.zip us))
    (hS : ∀ e ∈ tb, FnScope e.N e.ps (defScope e.st)) (hM : ∀ e ∈ tb, mSs ⟨e.N, namesOf tb, GC⟩ (defScope e.st) (fun _ => true) e.body (defBody e.st) = true) (hb : ∀ x ∈ bltNames, mg x = none)
    (hc : ∀ x d, GC.lookup x = some d → ∃ v u, mg x = some u ∧ RelV v u ∧ ∀ F, DP K F v d) :
    ∀ (lvl f : Nat) (e : Df), tb[f]? = some e → FnOk P w K mg base CX0 lvl (FA f) (FD f) e.ps (spI K (run (fnsOf tb) fuel lvl f)) := by
  intro lvl
  induction lvl with
  | zero =>
    intro f e he
    exact ⟨fun vs H Q E ⟨F, as, la, fr, d, os, _, _, _, z, _⟩ => by simp [run] at z, fun A outer s H args us vs Q E _ _ _ _ ⟨F, as, la, fr, d, os, _, _, _, z, _⟩ => by simp [run] at z⟩
  | succ lvl ih =>
    intro f e he
    obtain ⟨h1, h2, h3⟩ := hF f e he
    have hm := List.mem_of_getElem? he
    have S := hS e hm
    have hps : e.ps.length ≤ e.N.length := by have := congrArg List.length S.pre; rw [List.length_take] at this; omega
    have hfn : (fnsOf tb)[f]? = some e.fd := by unfold fnsOf; rw [List.getElem?_map, he]; rfl
    refine h1.ok S (fun vs H Q E ⟨F, as, la, fr, d, os, _, av, _, z, _⟩ => ?_) (fun cdv A outer s H vs Q E hr ⟨F, as, la, fr, d, os, sb, av, nd, z, k⟩ => ?_)
    · simp only [run, hfn, Option.bind_some] at z
      split at z
      · rename_i hl
        rw [av.len]; exact hl
      · cases z
    · simp only [run, hfn, Option.bind_some] at z
      split at z
      rotate_left
      · cases z
      rename_i hl
      have hl : as.length = e.ps.length := hl
      obtain ⟨q, e1, e2⟩ := Option.bind_eq_some_iff.mp z
      obtain ⟨os', e3, e4⟩ := Option.map_eq_some_iff.mp e2
      refine ⟨tS K la (evSs ⟨run (fnsOf tb) fuel lvl, fuel⟩ e.body), sndSs (M := ⟨e.N, namesOf tb, GC⟩) e.body _ (defScope e.st) (fun _ => true) (defBody e.st) ⟨rfl, S.nd, rfl, hr.units, rfl, fun _ _ => rfl, hb, hc, fun g nm hg => ?_⟩ S.kind PassesOwn.never (hM e hm), ?_⟩
      · have hg : (namesOf tb)[g]? = some nm := hg
        unfold namesOf at hg
        rw [List.getElem?_map] at hg
        obtain ⟨e', q1, q2⟩ := Option.map_eq_some_iff.mp hg
        subst q2
        obtain ⟨w1, w2, w3⟩ := hF g e' q1
        exact ⟨lvl, FA g, FD g, e'.ps, ih g e' q1, hr, w2, w1.kp, .all w3⟩
      · obtain ⟨R, ow⟩ := rel_start av sb nd (N := e.N) (by omega)
        refine ⟨F, startE e.N.length as, q.1, q.2, R, e1, ?_⟩
        have fin : ∀ (σ' : St) (F' H' : Hp), Rel K la q.2 σ' F' H' → Stp (Own (startE e.N.length as) (L2.start e.N vs)) F H (Own q.2 σ') F' H' →
            Stp (fun b => b ∈ la) F H (fun b => b ∈ la) F' H' ∧ Outs K F' H' la os' ∧ ∀ (j : Nat) (a : Addr), la[j]? = some a → ∃ (p : Nat) (d : D), q.2[p]? = some (.ow (some (0 + j)) d) ∧ σ'[p]? = some (some (.ref a)) := fun σ' F' H' R' st => by
          obtain ⟨o1, o2⟩ := end_outs R' av e3 fun j a h => by rw [Nat.zero_add]; exact h
          exact ⟨⟨st.mono, fun b o h n => st.keep b o h fun y => n (ow b y), fun b h => (st.newF b h).imp id (Or.imp id (Or.imp (ow b) id)), fun b h => .inl h, st.dom⟩, o1, o2⟩
        obtain ⟨fl, ρ'⟩ := q
        cases fl with
        | nx =>
          simp only at e4
          cases e4
          intro σ' F' H' R' st
          obtain ⟨s1, o1, _⟩ := fin σ' F' H' R' st
          exact k .non F' H' R'.sub s1 o1 .non
        | rt b d' =>
          simp only at e4
          cases e4
          intro v σ' F' H' R' st rt
          obtain ⟨s1, o1, o2⟩ := fin σ' F' H' R' st
          refine k v F' H' R'.sub s1 o1 ?_
          cases fr with
          | false => exact rt
          | true =>
            obtain ⟨a, rfl, g1, g2, g3⟩ := rt
            refine ⟨a, rfl, ?_, g1, g2⟩
            rcases g3 with g3 | ⟨i, g3, g4⟩
            · exact g3
            · rcases st.newO a ⟨i, none, _, g3, g4⟩ with y | y
              · exfalso
                obtain ⟨j, hj⟩ := List.mem_iff_getElem?.mp (ow a y)
                obtain ⟨p, d2, y1, y2⟩ := o2 j a hj
                have := R'.inj i p _ _ _ _ a g3 y1 g4 y2
                subst this
                rw [g3] at y1
                cases y1
              · exact y
theorem all_ok {tb : List Df} {GC : List (Str × D)} (fuel : Nat) (hF : ∀ (f : Nat) (e : Df), tb[f]? = some e → ∃ fa fd, Fun K e.nm e.nm e.st fa fd ∧ mg e.nm = some (.ref fa) ∧ ∀ us : List Value, us.length = e.ps.length → bindArgs fd ⟨us, []⟩ = pure (e.ps.zip us))
    (hS : ∀ e ∈ tb, FnScope e.N e.ps (defScope e.st)) (hM : ∀ e ∈ tb, mSs ⟨e.N, namesOf tb, GC⟩ (defScope e.st) (fun _ => true) e.body (defBody e.st) = true) (hb : ∀ x ∈ bltNames, mg x = none)
    (hc : ∀ x d, GC.lookup x = some d → ∃ v u, mg x = some u ∧ RelV v u ∧ ∀ F, DP K F v d) (lvl f : Nat) (e : Df) (he : tb[f]? = some e) :
    ∃ fa fd, mg e.nm = some (.ref fa) ∧ (∀ us : List Value, us.length = e.ps.length → bindArgs fd ⟨us, []⟩ = pure (e.ps.zip us)) ∧ ∀ base : Heap, FnOk P w K mg base CX0 lvl fa fd e.ps (spI K (run (fnsOf tb) fuel lvl f)) := by
  have ch : ∀ g : Nat, ∃ q : Addr × FuncData, ∀ e : Df, tb[g]? = some e → Fun K e.nm e.nm e.st q.1 q.2 ∧ mg e.nm = some (.ref q.1) ∧ ∀ us : List Value, us.length = e.ps.length → bindArgs q.2 ⟨us, []⟩ = pure (e.ps.zip us) := fun g => by
    cases hg : tb[g]? with
    | none =>
      obtain ⟨fa, fd, _⟩ := hF f e he
      exact ⟨⟨fa, fd⟩, nofun⟩
    | some e' =>
      obtain ⟨fa, fd, h⟩ := hF g e' hg
      exact ⟨⟨fa, fd⟩, fun e2 h2 => by cases h2; exact h⟩
  have ch2 := fun g => Classical.choose_spec (ch g)
  obtain ⟨_, h2, h3⟩ := ch2 f e he
  exact ⟨_, _, h2, h3, fun base => all_ok0 fuel (fun g => (Classical.choose (ch g)).1) (fun g => (Classical.choose (ch g)).2) ch2 hS hM hb hc lvl f e he⟩
/-- the script as data -/
def scrOf (ns : List Int) : D := .dict [(.none, .list (ns.map PyData.int))]
theorem dps_ints {F : Hp} : ∀ ns : List Int, DPs K F (ns.map V.int) (ns.map PyData.int)
  | [] => .nil
  | n :: ns => .cons (.int n) (dps_ints ns)
/-- the law's own promise -/
theorem law_sp {cal : List Ar → Option (Bool × D × List D)} {H : Hp} {a : Addr} {ns : List Int} {fr : Bool} {E : XK} (hS : SqL K H a (ns.map V.int)) (h : cal [.sh (scrOf ns)] = some (fr, .bool true, [])) : spI K cal [.ref a] H (fun v _ => v = .bl true) E :=
  ⟨H, [.sh (scrOf ns)], [], fr, .bool true, [], Sub.rfl', .sh (.scr hS (dps_ints ns)) .nil, List.nodup_nil, h, fun v F' H' sb st ou rv => by
    cases fr with
    | false => cases rv; rfl
    | true => obtain ⟨x, _, _, _, z⟩ := rv; cases z⟩
end
end PI

set_option Elab.async false
set_option linter.all false
set_option maxRecDepth 100000
set_option maxHeartbeats 4000000
/-! QA: the evaluator over data with a Lean type (Datum, DatumOrd); sorting; loops. -/
namespace PI
set_option autoImplicit false
open PySem PySem.W

section
variable {α β : Type} [DecidableEq α] [DecidableEq β]
section
variable [Datum α]
theorem okD_enc (h : Datum.depth α ≤ 16) (a : α) : okD (Datum.toD a) = true := by
  unfold okD
  rw [Datum.plain, decide_eq_true (Nat.le_trans (Datum.depth_le a) h)]
  rfl
theorem any_enc (x : α) : ∀ xs : List α, ((xs.map Datum.toD).any fun z => PyData.eqv z (Datum.toD x)) = decide (x ∈ xs)
  | [] => by simp
  | y :: ys => by
    rw [List.map_cons, List.any_cons, any_enc x ys, Datum.eqv]
    by_cases h : y = x
    · simp [h]
    · have : ¬ x = y := fun e => h e.symm
      simp [h, this]
theorem in_list (h : Datum.depth α ≤ 15) (x : α) (xs : List α) : inEv (Datum.toD x) (.list (xs.map Datum.toD)) = some (decide (x ∈ xs)) := by
  have h1 := okD_enc (α := α) (by omega) x
  have h2 := okD_enc (α := List α) (show Datum.depth α + 1 ≤ 16 by omega) xs
  unfold inEv
  simp only [h1, show okD (.list (xs.map Datum.toD)) = true from h2, any_enc, Bool.and_self, if_true]
theorem in_tup (h : Datum.depth α ≤ 15) (x : α) (xs : List α) : inEv (Datum.toD x) (.tuple (xs.map Datum.toD)) = some (decide (x ∈ xs)) := by
  have h1 := okD_enc (α := α) (by omega) x
  have h2 := okD_enc (α := Tup α) (show Datum.depth α + 1 ≤ 16 by omega) ⟨xs⟩
  unfold inEv
  simp only [h1, show okD (.tuple (xs.map Datum.toD)) = true from h2, any_enc, Bool.and_self, if_true]
theorem eq_enc (h : Datum.depth α ≤ 16) (a b : α) : cmpEv .eq (Datum.toD a) (Datum.toD b) = some (decide (a = b)) := by
  simp only [cmpEv, okD_enc h, Datum.eqv, Bool.and_self, if_true]
theorem ne_enc (h : Datum.depth α ≤ 16) (a b : α) : cmpEv .ne (Datum.toD a) (Datum.toD b) = some (!decide (a = b)) := by
  simp only [cmpEv, okD_enc h, Datum.eqv, Bool.and_self, if_true]
end
section
variable [DatumOrd α] [DatumOrd β]
/-- sorted -/
def leT (a b : α) : Bool := !DatumOrd.lt b a
def srtT (xs : List α) : List α := xs.mergeSort leT
theorem allAlike_enc (xs : List α) : allAlike (xs.map Datum.toD) = true := by
  unfold allAlike
  refine List.all_eq_true.mpr fun a ha => List.all_eq_true.mpr fun b hb => ?_
  obtain ⟨x, _, rfl⟩ := List.mem_map.mp ha
  obtain ⟨y, _, rfl⟩ := List.mem_map.mp hb
  exact DatumOrd.alike x y
theorem isNone_enc (a : α) : isNone (Datum.toD a) = false := by
  have := DatumOrd.notNone a
  cases h : Datum.toD a <;> first | rfl | exact absurd h this
theorem srt_enc (h : Datum.depth α ≤ 16) (xs : List α) : srtEv (xs.map Datum.toD) = some ((srtT xs).map Datum.toD) := by
  unfold srtEv
  have h1 : (xs.map Datum.toD).all (fun x => !isNone x && okD x) = true := by
    refine List.all_eq_true.mpr fun a ha => ?_
    obtain ⟨x, _, rfl⟩ := List.mem_map.mp ha
    rw [isNone_enc, okD_enc h]
    rfl
  rw [allAlike_enc, h1]
  simp only [Bool.and_self, if_true]
  congr 1
  unfold srtT
  symm
  refine List.map_mergeSort fun a _ b _ => ?_
  show leT a b = !dataLt (id (Datum.toD b)) (id (Datum.toD a))
  rw [id, id, DatumOrd.lt_eq]
  rfl
theorem mx_enc (h : Datum.depth α ≤ 16) (x : α) (xs : List α) : biEv .mx [.list ((x :: xs).map Datum.toD)] = some (.sh (Datum.toD (maxOf x xs))) := by
  have h1 := allAlike_enc (x :: xs)
  have h2 : PyData.depthAll ((x :: xs).map Datum.toD) ≤ 16 := Nat.le_trans (depthAll_map _) h
  rw [List.map_cons] at h1 h2 ⊢
  simp only [biEv, seqOf, h1, isNone_enc, decide_eq_true h2, maxD_map, Bool.not_false, Bool.and_self, if_true]
theorem mn_enc (h : Datum.depth α ≤ 16) (x : α) (xs : List α) : biEv .mn [.list ((x :: xs).map Datum.toD)] = some (.sh (Datum.toD (minOf x xs))) := by
  have h1 := allAlike_enc (x :: xs)
  have h2 : PyData.depthAll ((x :: xs).map Datum.toD) ≤ 16 := Nat.le_trans (depthAll_map _) h
  rw [List.map_cons] at h1 h2 ⊢
  simp only [biEv, seqOf, h1, isNone_enc, decide_eq_true h2, minD_map, Bool.not_false, Bool.and_self, if_true]
end
/-- an order -/
class LO (α : Type) [DecidableEq α] [DatumOrd α] : Prop where
  ir : ∀ a : α, DatumOrd.lt a a = false
  tr : ∀ a b c : α, DatumOrd.lt a b = true → DatumOrd.lt b c = true → DatumOrd.lt a c = true
  tot : ∀ a b : α, DatumOrd.lt a b = true ∨ a = b ∨ DatumOrd.lt b a = true
instance : LO Int where
  ir a := by show decide (a < a) = false; simp
  tr a b c h1 h2 := by
    have h1 : decide (a < b) = true := h1
    have h2 : decide (b < c) = true := h2
    show decide (a < c) = true
    simp only [decide_eq_true_eq] at *
    omega
  tot a b := by
    show decide (a < b) = true ∨ _ ∨ decide (b < a) = true
    simp only [decide_eq_true_eq]
    omega
section
variable [DatumOrd α] [DatumOrd β] [LO α] [LO β]
theorem listLt_ir : ∀ xs : List α, listLt xs xs = false
  | [] => rfl
  | x :: xs => by simp [listLt, listLt_ir xs]
theorem listLt_tr : ∀ xs ys zs : List α, listLt xs ys = true → listLt ys zs = true → listLt xs zs = true
  | _, [], [], _, h2 => by cases h2
  | [], _, _ :: _, _, _ => rfl
  | _ :: _, [], _ :: _, h1, _ => by cases h1
  | _, _ :: _, [], _, h2 => by cases h2
  | x :: xs, y :: ys, z :: zs, h1, h2 => by
    simp only [listLt] at h1 h2 ⊢
    split at h1
    · rename_i e1
      subst e1
      split at h2
      · rename_i e2
        subst e2
        rw [if_pos rfl]
        exact listLt_tr xs ys zs h1 h2
      · rename_i e2
        rw [if_neg e2]; exact h2
    · rename_i e1
      split at h2
      · rename_i e2
        subst e2
        rw [if_neg e1]; exact h1
      · have h3 := LO.tr x y z h1 h2
        rw [if_neg fun e => by subst e; rw [LO.ir] at h3; cases h3]
        exact h3
theorem listLt_tot : ∀ xs ys : List α, listLt xs ys = true ∨ xs = ys ∨ listLt ys xs = true
  | [], [] => .inr (.inl rfl)
  | [], _ :: _ => .inl rfl
  | _ :: _, [] => .inr (.inr rfl)
  | x :: xs, y :: ys => by
    simp only [listLt]
    rcases LO.tot x y with h | h | h
    · have : x ≠ y := fun e => by subst e; rw [LO.ir] at h; cases h
      rw [if_neg this]; exact .inl h
    · subst h
      rw [if_pos rfl, if_pos rfl]
      exact (listLt_tot xs ys).imp id (Or.imp (fun e => by rw [e]) id)
    · have : y ≠ x := fun e => by subst e; rw [LO.ir] at h; cases h
      rw [if_neg this]; exact .inr (.inr h)
instance : LO (Tup α) where
  ir a := listLt_ir a.items
  tr a b c := listLt_tr a.items b.items c.items
  tot a b := (listLt_tot a.items b.items).imp id (Or.imp (fun e => by cases a; cases b; exact congrArg Tup.mk e) id)
instance : LO (α × β) where
  ir a := by
    show (if a.1 = a.1 then DatumOrd.lt a.2 a.2 else _) = false
    rw [if_pos rfl, LO.ir]
  tr a b c h1 h2 := by
    have h1 : (if a.1 = b.1 then DatumOrd.lt a.2 b.2 else DatumOrd.lt a.1 b.1) = true := h1
    have h2 : (if b.1 = c.1 then DatumOrd.lt b.2 c.2 else DatumOrd.lt b.1 c.1) = true := h2
    show (if a.1 = c.1 then DatumOrd.lt a.2 c.2 else DatumOrd.lt a.1 c.1) = true
    split at h1
    · rename_i e1
      split at h2
      · rename_i e2
        rw [if_pos (e1.trans e2)]; exact LO.tr _ _ _ h1 h2
      · rename_i e2
        rw [e1, if_neg e2]; exact h2
    · rename_i e1
      split at h2
      · rename_i e2
        rw [← e2, if_neg e1]; exact h1
      · have h3 := LO.tr _ _ _ h1 h2
        rw [if_neg fun e => by rw [e, LO.ir] at h3; cases h3]
        exact h3
  tot a b := by
    show (if a.1 = b.1 then DatumOrd.lt a.2 b.2 else DatumOrd.lt a.1 b.1) = true ∨ _ ∨ (if b.1 = a.1 then DatumOrd.lt b.2 a.2 else DatumOrd.lt b.1 a.1) = true
    rcases LO.tot a.1 b.1 with h | h | h
    · rw [if_neg fun e => by rw [e, LO.ir] at h; cases h]; exact .inl h
    · rw [if_pos h, if_pos h.symm]
      exact (LO.tot a.2 b.2).imp id (Or.imp (fun e => Prod.ext h e) id)
    · rw [if_neg (show ¬ b.1 = a.1 from fun e => by rw [e, LO.ir] at h; cases h)]; exact .inr (.inr h)
end
section
variable [DatumOrd α] [LO α]
theorem leT_trans (a b c : α) (h1 : leT a b = true) (h2 : leT b c = true) : leT a c = true := by
  simp only [leT, Bool.not_eq_true'] at *
  cases h : DatumOrd.lt c a with
  | false => rfl
  | true =>
    rcases LO.tot a b with q | q | q
    · have := LO.tr _ _ _ h q; rw [this] at h2; cases h2
    · subst q; rw [h] at h2; cases h2
    · rw [q] at h1; cases h1
theorem leT_total (a b : α) : (leT a b || leT b a) = true := by
  simp only [leT]
  cases h : DatumOrd.lt b a with
  | false => rfl
  | true =>
    cases h2 : DatumOrd.lt a b with
    | false => rfl
    | true =>
      have := LO.tr _ _ _ h h2
      rw [LO.ir] at this
      cases this
theorem leT_anti (a b : α) (h1 : leT a b = true) (h2 : leT b a = true) : a = b := by
  simp only [leT, Bool.not_eq_true'] at *
  rcases LO.tot a b with q | q | q
  · rw [q] at h2; cases h2
  · exact q
  · rw [q] at h1; cases h1
theorem srtT_perm (xs : List α) : (srtT xs).Perm xs := List.mergeSort_perm xs leT
theorem srtT_sorted (xs : List α) : (srtT xs).Pairwise (fun a b => leT a b = true) := List.pairwise_mergeSort leT_trans leT_total xs
theorem srtT_eq {xs ys : List α} (p : ys.Perm xs) (s : ys.Pairwise (fun a b => leT a b = true)) : srtT xs = ys :=
  List.Perm.eq_of_pairwise (fun a b _ _ h1 h2 => leT_anti a b h1 h2) (srtT_sorted xs) s ((srtT_perm xs).trans p.symm)
theorem srtT_of_perm {xs ys : List α} (p : xs.Perm ys) : srtT xs = srtT ys := srtT_eq ((srtT_perm ys).trans p.symm) (srtT_sorted ys)
theorem srtT_filter (p : α → Bool) (xs : List α) : srtT (xs.filter p) = (srtT xs).filter p := srtT_eq ((srtT_perm xs).filter p) ((srtT_sorted xs).filter p)
theorem srtT_mem {a : α} {xs : List α} : a ∈ srtT xs ↔ a ∈ xs := (srtT_perm xs).mem_iff
theorem srtT_len (xs : List α) : (srtT xs).length = xs.length := (srtT_perm xs).length_eq
theorem srtT_sorted_id {xs : List α} (s : xs.Pairwise (fun a b => leT a b = true)) : srtT xs = xs := srtT_eq (.refl _) s
/-- the least, the greatest -/
theorem minOf_ok (x : α) (xs : List α) : minOf x xs ∈ x :: xs ∧ ∀ y ∈ x :: xs, leT (minOf x xs) y = true := by
  unfold minOf
  induction xs generalizing x with
  | nil =>
    refine ⟨by simp, fun y hy => ?_⟩
    simp only [List.mem_singleton] at hy
    subst hy
    simp [leT, LO.ir]
  | cons z zs ih =>
    rw [List.foldl_cons]
    obtain ⟨h1, h2⟩ := ih (if DatumOrd.lt z x = true then z else x)
    have low := h2 _ List.mem_cons_self
    refine ⟨?_, fun y hy => ?_⟩
    · rcases List.mem_cons.mp h1 with h | h
      · rw [h]; split <;> simp
      · simp [h]
    · rcases List.mem_cons.mp hy with rfl | hy
      · refine leT_trans _ _ _ low ?_
        split
        · rename_i q
          simp only [leT, Bool.not_eq_true']
          cases q2 : DatumOrd.lt y z with
          | false => rfl
          | true => have := LO.tr _ _ _ q q2; rw [LO.ir] at this; cases this
        · simp [leT, LO.ir]
      · rcases List.mem_cons.mp hy with rfl | hy
        · refine leT_trans _ _ _ low ?_
          split
          · simp [leT, LO.ir]
          · rename_i q
            simpa [leT] using q
        · exact h2 y (List.mem_cons_of_mem _ hy)
theorem maxOf_ok (x : α) (xs : List α) : maxOf x xs ∈ x :: xs ∧ ∀ y ∈ x :: xs, leT y (maxOf x xs) = true := by
  unfold maxOf
  induction xs generalizing x with
  | nil =>
    refine ⟨by simp, fun y hy => ?_⟩
    simp only [List.mem_singleton] at hy
    subst hy
    simp [leT, LO.ir]
  | cons z zs ih =>
    rw [List.foldl_cons]
    obtain ⟨h1, h2⟩ := ih (if DatumOrd.lt x z = true then z else x)
    have low := h2 _ List.mem_cons_self
    refine ⟨?_, fun y hy => ?_⟩
    · rcases List.mem_cons.mp h1 with h | h
      · rw [h]; split <;> simp
      · simp [h]
    · rcases List.mem_cons.mp hy with rfl | hy
      · refine leT_trans _ _ _ ?_ low
        split
        · rename_i q
          simp only [leT, Bool.not_eq_true']
          cases q2 : DatumOrd.lt z y with
          | false => rfl
          | true => have := LO.tr _ _ _ q q2; rw [LO.ir] at this; cases this
        · simp [leT, LO.ir]
      · rcases List.mem_cons.mp hy with rfl | hy
        · refine leT_trans _ _ _ ?_ low
          split
          · simp [leT, LO.ir]
          · rename_i q
            simpa [leT] using q
        · exact h2 y (List.mem_cons_of_mem _ hy)
theorem maxOf_perm {x y : α} {xs ys : List α} (p : (x :: xs).Perm (y :: ys)) : maxOf x xs = maxOf y ys := by
  obtain ⟨a1, a2⟩ := maxOf_ok x xs
  obtain ⟨b1, b2⟩ := maxOf_ok y ys
  exact leT_anti _ _ (b2 _ (p.mem_iff.mp a1)) (a2 _ (p.mem_iff.mpr b1))
theorem minOf_perm {x y : α} {xs ys : List α} (p : (x :: xs).Perm (y :: ys)) : minOf x xs = minOf y ys := by
  obtain ⟨a1, a2⟩ := minOf_ok x xs
  obtain ⟨b1, b2⟩ := minOf_ok y ys
  exact leT_anti _ _ (a2 _ (p.mem_iff.mpr b1)) (b2 _ (p.mem_iff.mp a1))
theorem minOf_head {x : α} {xs : List α} (s : (x :: xs).Pairwise (fun a b => leT a b = true)) : minOf x xs = x := by
  obtain ⟨a1, a2⟩ := minOf_ok x xs
  rcases List.mem_cons.mp a1 with h | h
  · exact h
  · exact leT_anti _ _ (a2 x List.mem_cons_self) ((List.pairwise_cons.mp s).1 _ h)
theorem maxOf_last {x : α} {xs : List α} (s : (x :: xs).Pairwise (fun a b => leT a b = true)) : maxOf x xs = (x :: xs).getLast (List.cons_ne_nil _ _) := by
  obtain ⟨a1, a2⟩ := maxOf_ok x xs
  refine leT_anti _ _ ?_ (a2 _ (List.getLast_mem _))
  have hd := List.dropLast_concat_getLast (List.cons_ne_nil x xs)
  rw [← hd] at a1 s
  rcases List.mem_append.mp a1 with h | h
  · exact (List.pairwise_append.mp s).2.2 _ h _ (by simp)
  · simp only [List.mem_singleton] at h
    rw [h]
    simp [leT, LO.ir]
end
end

/-! ### blocks and loops -/
def callB (C : Ctx) (ns : Nat) (body : Ss) (as : List Ar) : Option (Bool × D × List D) := (evSs C body (startE ns as)).bind fun p => (endOuts p.2 as 0 0).map fun os => match p.1 with
  | .nx => (false, .none, os)
  | .rt b d => (b, d, os)
theorem run_callB {fns : List Fd} {fuel lvl k : Nat} {fd : Fd} {as : List Ar} (h : fns[k]? = some fd) (hl : as.length = fd.np) : run fns fuel (lvl + 1) k as = callB ⟨run fns fuel lvl, fuel⟩ fd.ns fd.body as := by
  simp only [run, h, Option.bind_some, hl, if_true]
  rfl
theorem nx_cons {C : Ctx} {s : S} {ss : Ss} {ρ ρ' : Env} (h : evS C s ρ = some (.nx, ρ')) : evSs C (.cons s ss) ρ = evSs C ss ρ' := by
  simp only [evSs, h, Option.bind_some]
theorem rt_cons {C : Ctx} {s : S} {ss : Ss} {ρ ρ' : Env} {b : Bool} {d : D} (h : evS C s ρ = some (.rt b d, ρ')) : evSs C (.cons s ss) ρ = some (.rt b d, ρ') := by
  simp only [evSs, h, Option.bind_some]
def compB (C : Ctx) (elt : E) (tg : Tg) (ifs : Es) : D → Env → Option (Option D × Env) := fun x ρ => (bindT tg x ρ).bind fun ρ1 => (evF C ifs ρ1).bind fun t => if t.1 = true then (evE C elt t.2).bind fun r => (frz r.2 r.1).map fun z => (some z.1, wipeE z.2 tg.slots)
  else some (none, wipeE t.2 tg.slots)
theorem evE_comp {C : Ctx} {elt : E} {tg : Tg} {it : It} {ifs : Es} {ρ : Env} : evE C (.comp elt tg it ifs) ρ = (evI C it ρ).bind fun p => (compGo (compB C elt tg ifs) p.1 (wipeE p.2 tg.slots)).map fun q => (.fr (.list q.1), backE p.2 q.2 tg.slots) := by
  simp only [evE]
  rfl
theorem back_wipe (ρ : Env) (is : List Nat) : backE ρ (wipeE ρ is) is = ρ := by
  refine List.ext_getElem? fun j => ?_
  by_cases hl : j < ρ.length
  · by_cases hj : j ∈ is
    · have h1 : j < (backE ρ (wipeE ρ is) is).length := by rw [backE_len, wipeE_len]; exact hl
      obtain ⟨s, hs⟩ : ∃ s, (backE ρ (wipeE ρ is) is)[j]? = some s := ⟨_, List.getElem?_eq_getElem h1⟩
      rw [hs, backE_in hj hs]
      unfold Env.at
      rw [List.getD_eq_getElem?_getD, List.getElem?_eq_getElem hl]
      rfl
    · rw [backE_out hj, wipeE_out hj]
  · rw [List.getElem?_eq_none (by rw [backE_len, wipeE_len]; omega), List.getElem?_eq_none (by omega)]
/-- a list comprehension that changes nothing -/
theorem comp_eq {α : Type} {C : Ctx} {elt : E} {tg : Tg} {it : It} {ifs : Es} {ρ ρ1 : Env} {as : List α} {T : α → D} {f : α → Option D} (hit : evI C it ρ = some (as.map T, ρ1)) (h : ∀ a ∈ as, compB C elt tg ifs (T a) (wipeE ρ1 tg.slots) = some (f a, wipeE ρ1 tg.slots)) :
    evE C (.comp elt tg it ifs) ρ = some (.fr (.list (as.filterMap f)), ρ1) := by
  have key : ∀ bs : List α, (∀ a ∈ bs, compB C elt tg ifs (T a) (wipeE ρ1 tg.slots) = some (f a, wipeE ρ1 tg.slots)) → compGo (compB C elt tg ifs) (bs.map T) (wipeE ρ1 tg.slots) = some (bs.filterMap f, wipeE ρ1 tg.slots) := by
    intro bs
    induction bs with
    | nil => intro _; rfl
    | cons b bs ih =>
      intro hb
      rw [List.map_cons, compGo, hb b List.mem_cons_self]
      simp only [Option.bind_some]
      rw [ih fun a ha => hb a (List.mem_cons_of_mem _ ha)]
      simp only [Option.bind_some, List.filterMap_cons]
      cases f b <;> rfl
  simp only [evE_comp, hit, Option.bind_some]
  rw [key as h]
  simp only [Option.map_some, back_wipe]
theorem comp_map {α : Type} {C : Ctx} {elt : E} {tg : Tg} {it : It} {ifs : Es} {ρ ρ1 : Env} {as : List α} {T g : α → D} (hit : evI C it ρ = some (as.map T, ρ1)) (h : ∀ a ∈ as, compB C elt tg ifs (T a) (wipeE ρ1 tg.slots) = some (some (g a), wipeE ρ1 tg.slots)) :
    evE C (.comp elt tg it ifs) ρ = some (.fr (.list (as.map g)), ρ1) := by
  rw [comp_eq (f := fun a => some (g a)) hit h, show (fun a => some (g a)) = some ∘ g from rfl, List.filterMap_eq_map]
theorem comp_filter {α : Type} {C : Ctx} {elt : E} {tg : Tg} {it : It} {ifs : Es} {ρ ρ1 : Env} {as : List α} {T g : α → D} {p : α → Bool} (hit : evI C it ρ = some (as.map T, ρ1)) (h : ∀ a ∈ as, compB C elt tg ifs (T a) (wipeE ρ1 tg.slots) = some (if p a = true then some (g a) else none, wipeE ρ1 tg.slots)) :
    evE C (.comp elt tg it ifs) ρ = some (.fr (.list ((as.filter p).map g)), ρ1) := by
  have q : ∀ bs : List α, bs.filterMap (fun a => if p a = true then some (g a) else none) = (bs.filter p).map g := by
    intro bs
    induction bs with
    | nil => rfl
    | cons a bs ih =>
      rw [List.filterMap_cons, List.filter_cons]
      cases hp : p a <;> simp [ih]
  rw [comp_eq (f := fun a => if p a = true then some (g a) else none) hit h, q]
/-- a list comprehension whose turns change the slots -/
theorem comp_go {α : Type} {C : Ctx} {elt : E} {tg : Tg} {it : It} {ifs : Es} {ρ ρ1 : Env} {as : List α} {T : α → D} (hit : evI C it ρ = some (as.map T, ρ1)) (I : Nat → List D → Env → Prop) (h0 : I 0 [] (wipeE ρ1 tg.slots))
    (h : ∀ (i : Nat) (a : α) (out : List D) (ρ2 : Env), as[i]? = some a → I i out ρ2 → ∃ o ρ3, compB C elt tg ifs (T a) ρ2 = some (o, ρ3) ∧ I (i + 1) (out ++ o.toList) ρ3) : ∃ out ρ2, evE C (.comp elt tg it ifs) ρ = some (.fr (.list out), backE ρ1 ρ2 tg.slots) ∧ I as.length out ρ2 := by
  have key : ∀ (n i : Nat) (out : List D) (ρ2 : Env), n + i = as.length → I i out ρ2 → ∃ more ρ3, compGo (compB C elt tg ifs) ((as.drop i).map T) ρ2 = some (more, ρ3) ∧ I as.length (out ++ more) ρ3 := by
    intro n
    induction n with
    | zero =>
      intro i out ρ2 hi hI
      have hi : i = as.length := by omega
      subst hi
      rw [List.drop_length]
      exact ⟨[], ρ2, rfl, by rw [List.append_nil]; exact hI⟩
    | succ n ih =>
      intro i out ρ2 hi hI
      have hlt : i < as.length := by omega
      obtain ⟨o, ρ3, h1, h2⟩ := h i as[i] out ρ2 (by simp [hlt]) hI
      obtain ⟨more, ρ4, h3, h4⟩ := ih (i + 1) (out ++ o.toList) ρ3 (by omega) h2
      refine ⟨o.toList ++ more, ρ4, ?_, by rw [← List.append_assoc]; exact h4⟩
      rw [List.drop_eq_getElem_cons hlt, List.map_cons, compGo, h1]
      simp only [Option.bind_some]
      rw [h3]
      cases o <;> rfl
  obtain ⟨out, ρ2, h1, h2⟩ := key as.length 0 [] _ rfl h0
  refine ⟨out, ρ2, ?_, h2⟩
  simp only [evE_comp, hit, Option.bind_some]
  rw [show as.map T = (as.drop 0).map T from rfl, h1]
  rfl
def dcompB (C : Ctx) (k v : E) (tg : Tg) (ifs : Es) : D → Env → Option (Option D × Env) := fun x ρ => (bindT tg x ρ).bind fun ρ1 => (evF C ifs ρ1).bind fun t => if t.1 = true then (evE C k t.2).bind fun r => (frz r.2 r.1).bind fun z => (evE C v z.2).bind fun r' => (frz r'.2 r'.1).map fun z' =>
    (some (.tuple [z.1, z'.1]), wipeE z'.2 tg.slots)
  else some (none, wipeE t.2 tg.slots)
theorem evE_dcomp {C : Ctx} {k v : E} {tg : Tg} {it : It} {ifs : Es} {ρ : Env} : evE C (.dcomp k v tg it ifs) ρ = (evI C it ρ).bind fun p => (compGo (dcompB C k v tg ifs) p.1 (wipeE p.2 tg.slots)).bind fun q => (pairsOf q.1).bind fun kvs => if oneKind (kvs.map (·.1)) then some (.fr (.dict (dmerge [] kvs)), backE p.2 q.2 tg.slots) else none := by
  simp only [evE]
  rfl
theorem dcomp_map {α : Type} {C : Ctx} {k v : E} {tg : Tg} {it : It} {ifs : Es} {ρ ρ1 : Env} {as : List α} {T g w : α → D} (hit : evI C it ρ = some (as.map T, ρ1)) (hk : oneKind (as.map g) = true) (h : ∀ a ∈ as, dcompB C k v tg ifs (T a) (wipeE ρ1 tg.slots) = some (some (.tuple [g a, w a]), wipeE ρ1 tg.slots)) :
    evE C (.dcomp k v tg it ifs) ρ = some (.fr (.dict (dmerge [] (as.map fun a => (g a, w a)))), ρ1) := by
  have key : ∀ bs : List α, (∀ a ∈ bs, dcompB C k v tg ifs (T a) (wipeE ρ1 tg.slots) = some (some (.tuple [g a, w a]), wipeE ρ1 tg.slots)) → compGo (dcompB C k v tg ifs) (bs.map T) (wipeE ρ1 tg.slots) = some (bs.map fun a => .tuple [g a, w a], wipeE ρ1 tg.slots) := by
    intro bs
    induction bs with
    | nil => intro _; rfl
    | cons b bs ih =>
      intro hb
      rw [List.map_cons, compGo, hb b List.mem_cons_self]
      simp only [Option.bind_some]
      rw [ih fun a ha => hb a (List.mem_cons_of_mem _ ha)]
      rfl
  have pr : ∀ bs : List α, pairsOf (bs.map fun a => PyData.tuple [g a, w a]) = some (bs.map fun a => (g a, w a)) := by
    intro bs
    induction bs with
    | nil => rfl
    | cons b bs ih => rw [List.map_cons, pairsOf, ih]; rfl
  simp only [evE_dcomp, hit, Option.bind_some]
  rw [key as h]
  simp only [Option.bind_some, pr]
  rw [show ((as.map fun a => (g a, w a)).map (·.1)) = as.map g by rw [List.map_map]; rfl, if_pos hk]
  simp only [back_wipe]
/-- a for that always goes on -/
theorem for_go {α : Type} {C : Ctx} {tg : Tg} {it : It} {body : Ss} {ρ ρ1 : Env} {as : List α} {T : α → D} (hit : evI C it ρ = some (as.map T, ρ1)) (I : Nat → Env → Prop) (h0 : I 0 ρ1)
    (h : ∀ (i : Nat) (a : α) (ρ2 : Env), as[i]? = some a → I i ρ2 → ∃ ρ3, ((bindT tg (T a) ρ2).bind fun ρ => evSs C body ρ) = some (.nx, ρ3) ∧ I (i + 1) ρ3) : ∃ ρ2, evS C (.for tg it body) ρ = some (.nx, ρ2) ∧ I as.length ρ2 := by
  have key : ∀ (n i : Nat) (ρ2 : Env), n + i = as.length → I i ρ2 → ∃ ρ3, forGo (fun x ρ => (bindT tg x ρ).bind fun ρ => evSs C body ρ) ((as.drop i).map T) ρ2 = some (.nx, ρ3) ∧ I as.length ρ3 := by
    intro n
    induction n with
    | zero =>
      intro i ρ2 hi hI
      have hi : i = as.length := by omega
      subst hi
      rw [List.drop_length]
      exact ⟨ρ2, rfl, hI⟩
    | succ n ih =>
      intro i ρ2 hi hI
      have hlt : i < as.length := by omega
      obtain ⟨ρ3, h1, h2⟩ := h i as[i] ρ2 (by simp [hlt]) hI
      obtain ⟨ρ4, h3, h4⟩ := ih (i + 1) ρ3 (by omega) h2
      refine ⟨ρ4, ?_, h4⟩
      rw [List.drop_eq_getElem_cons hlt, List.map_cons, forGo, h1]
      exact h3
  obtain ⟨ρ2, h1, h2⟩ := key as.length 0 ρ1 rfl h0
  refine ⟨ρ2, ?_, h2⟩
  simp only [evS, hit, Option.bind_some]
  exact h1
/-- a while, by a measure -/
theorem whl_go {C : Ctx} {c : E} {body : Ss} {ρ : Env} (I : Nat → Env → Prop) (n : Nat) (hn : n < C.fuel) (h0 : I n ρ) (hs : ∀ (m : Nat) (ρ1 : Env), I (m + 1) ρ1 → ∃ ρ2 ρ3, evT C c ρ1 = some (true, ρ2) ∧ evSs C body ρ2 = some (.nx, ρ3) ∧ I m ρ3)
    (he : ∀ ρ1, I 0 ρ1 → ∃ ρ2, evT C c ρ1 = some (false, ρ2) ∧ I 0 ρ2) : ∃ ρ2, evS C (.whl c body) ρ = some (.nx, ρ2) ∧ I 0 ρ2 := by
  have key : ∀ (m f : Nat) (ρ1 : Env), m < f → I m ρ1 → ∃ ρ2, whlGo (evT C c) (evSs C body) f ρ1 = some (.nx, ρ2) ∧ I 0 ρ2 := by
    intro m
    induction m with
    | zero =>
      intro f ρ1 hf hI
      obtain ⟨ρ2, h1, h2⟩ := he ρ1 hI
      cases f with
      | zero => omega
      | succ f => exact ⟨ρ2, by simp [whlGo, h1], h2⟩
    | succ m ih =>
      intro f ρ1 hf hI
      obtain ⟨ρ2, ρ3, h1, h2, h3⟩ := hs m ρ1 hI
      cases f with
      | zero => omega
      | succ f =>
        obtain ⟨ρ4, h4, h5⟩ := ih f ρ3 (by omega) h3
        exact ⟨ρ4, by simp [whlGo, h1, h2, h4], h5⟩
  obtain ⟨ρ2, h1, h2⟩ := key n C.fuel ρ hn h0
  exact ⟨ρ2, by simp only [evS]; exact h1, h2⟩
end PI

set_option Elab.async false
set_option linter.all false
set_option maxRecDepth 100000
set_option maxHeartbeats 4000000
/-! QE: the evaluator's equations at slots that stand written out (so that nothing is unfolded ahead of its turn). -/
namespace PI
set_option autoImplicit false
open PySem PySem.W
section
variable {C : Ctx} {s : Sl} {ρ : Env}
theorem q_v0 {d : D} : evE C (.v 0) (.sh d :: ρ) = some (.pk 0, .sh d :: ρ) := by first | (simp only [evE]; done) | (simp only [evE]; rfl)
theorem q_v {i : Nat} : evE C (.v i) (s :: ρ) = match Env.at (s :: ρ) i with
    | .un => none
    | _ => some (.pk i, s :: ρ) := by first | (simp only [evE]; done) | (simp only [evE]; rfl)
theorem q_con {d : D} : evE C (.con d) (s :: ρ) = some (.sh d, s :: ρ) := by simp only [evE]
theorem q_glo {x : Str} {d : D} : evE C (.glo x d) (s :: ρ) = some (.sh d, s :: ρ) := by simp only [evE]
theorem q_no : evE C .no (s :: ρ) = some (.sh .none, s :: ρ) := by simp only [evE]
theorem q_tup {es : Es} : evE C (.tup es) (s :: ρ) = (evL C es (s :: ρ)).map fun p => (.sh (.tuple p.1), p.2) := by simp only [evE]
theorem q_lst {es : Es} : evE C (.lst es) (s :: ρ) = (evL C es (s :: ρ)).map fun p => (.fr (.list p.1), p.2) := by simp only [evE]
theorem q_dnk : evE C .dnk (s :: ρ) = some (.fr (.dict []), s :: ρ) := by simp only [evE]
theorem q_op2 {o : Op2} {a b : E} : evE C (.op2 o a b) (s :: ρ) = (evE C a (s :: ρ)).bind fun p => (evE C b p.2).bind fun q => (cont q.2 p.1).bind fun x => (cont q.2 q.1).bind fun y => (op2Ev o x y).map fun r => (r, q.2) := by simp only [evE]
theorem q_neg {a : E} : evE C (.neg a) (s :: ρ) = (evE C a (s :: ρ)).bind fun p => (cont p.2 p.1).bind fun x => (intOf x).map fun i => (.sh (.int (-i)), p.2) := by simp only [evE]
theorem q_cmp {o : Cm} {a b : E} : evE C (.cmp o a b) (s :: ρ) = (evE C a (s :: ρ)).bind fun p => (evE C b p.2).bind fun q => (cont q.2 p.1).bind fun x => (cont q.2 q.1).bind fun y => (cmpEv o x y).map fun r => (.sh (.bool r), q.2) := by simp only [evE]
theorem q_cmp2 {o o' : Cm} {a b c : E} : evE C (.cmp2 o o' a b c) (s :: ρ) = (evE C a (s :: ρ)).bind fun p => (evE C b p.2).bind fun q => (cont q.2 p.1).bind fun x => (cont q.2 q.1).bind fun y => (cmpEv o x y).bind fun r =>
      if r = true then (evE C c q.2).bind fun s => (cont s.2 q.1).bind fun y' => (cont s.2 s.1).bind fun z => (cmpEv o' y' z).map fun r' => (.sh (.bool r'), s.2)
      else some (.sh (.bool false), q.2) := by simp only [evE]
theorem q_and {a b : E} : evE C (.and a b) (s :: ρ) = (evE C a (s :: ρ)).bind fun p => (cont p.2 p.1).bind fun x => (truth x).bind fun t => if t = true then evE C b p.2 else some p := by simp only [evE]
theorem q_or {a b : E} : evE C (.or a b) (s :: ρ) = (evE C a (s :: ρ)).bind fun p => (cont p.2 p.1).bind fun x => (truth x).bind fun t => if t = true then some p else evE C b p.2 := by simp only [evE]
theorem q_not {a : E} : evE C (.not a) (s :: ρ) = (evE C a (s :: ρ)).bind fun p => (cont p.2 p.1).bind fun x => (truth x).map fun t => (.sh (.bool (!t)), p.2) := by simp only [evE]
theorem q_ite {c a b : E} : evE C (.ite c a b) (s :: ρ) = (evE C c (s :: ρ)).bind fun p => (cont p.2 p.1).bind fun x => (truth x).bind fun t => if t = true then evE C a p.2 else evE C b p.2 := by simp only [evE]
theorem q_bi {f : Bi} {es : Es} : evE C (.bi f es) (s :: ρ) = (evR C es (s :: ρ)).bind fun p => (conts p.2 p.1).bind fun ds => (biEv f ds).map fun r => (r, p.2) := by simp only [evE]
theorem q_lrng {it : It} : evE C (.lrng it) (s :: ρ) = (evI C it (s :: ρ)).map fun p => (.fr (.list p.1), p.2) := by simp only [evE]
theorem q_mu {m : Mu} {i : Nat} {es : Es} : evE C (.mu m i es) (s :: ρ) = match Env.at (s :: ρ) i with
    | .ow _ c0 => if muK m c0 = true then (if muF m = true then (evL C es (s :: ρ)).bind fun p => match p.2.at i with
        | .ow t c => (muEv m c p.1).map fun r => (.sh r.1, p.2.set i (.ow t r.2))
        | _ => none
      else (evR C es (s :: ρ)).bind fun p => (conts p.2 p.1).bind fun ds => match p.2.at i with
        | .ow t c => (muEv m c ds).map fun r => (.sh r.1, p.2.set i (.ow t r.2))
        | _ => none) else none
    | _ => none := by first | (simp only [evE]; done) | (simp only [evE]; rfl)
theorem q_call {f : Nat} {as : As} : evE C (.call f as) (s :: ρ) = (evA C as (s :: ρ)).bind fun p => (apArgs p.2 p.1).bind fun ars => if (apSlots p.1).Nodup then (C.cal f ars).bind fun q =>
      (giveBack p.2 (apSlots p.1) q.2.2).map fun ρ' => (if q.1 = true then .fr q.2.1 else .sh q.2.1, ρ') else none := by simp only [evE]
theorem q_ix {a i : E} : evE C (.ix a i) (s :: ρ) = (evE C a (s :: ρ)).bind fun p => (evE C i p.2).bind fun q => (cont q.2 p.1).bind fun x => (cont q.2 q.1).bind fun y => (ixEv x y).map fun d => (.sh d, q.2) := by simp only [evE]
theorem q_sl {a lo hi : E} : evE C (.sl a lo hi) (s :: ρ) = (evE C a (s :: ρ)).bind fun p => (evE C lo p.2).bind fun q => (cont q.2 q.1).bind fun y => (evE C hi q.2).bind fun s => (cont s.2 s.1).bind fun z => (cont s.2 p.1).bind fun x =>
      (slEv x y z).map fun r => (r, s.2) := by simp only [evE]
theorem q_rev {a : E} : evE C (.rev a) (s :: ρ) = (evE C a (s :: ρ)).bind fun p => (cont p.2 p.1).bind fun x => (revEv x).map fun r => (r, p.2) := by simp only [evE]
theorem q_lnil : evL C .nil (s :: ρ) = some ([], s :: ρ) := by simp only [evL]
theorem q_lcons {e : E} {es : Es} : evL C (.cons e es) (s :: ρ) = (evE C e (s :: ρ)).bind fun p => (frz p.2 p.1).bind fun p' => (evL C es p'.2).bind fun q => some (p'.1 :: q.1, q.2) := by simp only [evL]
theorem q_rnil : evR C .nil (s :: ρ) = some ([], s :: ρ) := by simp only [evR]
theorem q_rcons {e : E} {es : Es} : evR C (.cons e es) (s :: ρ) = (evE C e (s :: ρ)).bind fun p => (evR C es p.2).bind fun q => some (p.1 :: q.1, q.2) := by simp only [evR]
theorem q_fnil : evF C .nil (s :: ρ) = some (true, s :: ρ) := by simp only [evF]
theorem q_fcons {e : E} {es : Es} : evF C (.cons e es) (s :: ρ) = (evE C e (s :: ρ)).bind fun p => (cont p.2 p.1).bind fun x => (truth x).map fun t => (t, p.2) := by simp only [evF]
theorem q_anil : evA C .nil (s :: ρ) = some ([], s :: ρ) := by simp only [evA]
theorem q_aval {e : E} {as : As} : evA C (.val e as) (s :: ρ) = (evE C e (s :: ρ)).bind fun p => (frz p.2 p.1).bind fun p' => (evA C as p'.2).bind fun q => some (.sh p'.1 :: q.1, q.2) := by simp only [evA]
theorem q_aio {i : Nat} {as : As} : evA C (.io i as) (s :: ρ) = match Env.at (s :: ρ) i with
    | .ow _ _ => (evA C as (s :: ρ)).bind fun q => some (.io i :: q.1, q.2)
    | _ => none := by first | (simp only [evA]; done) | (simp only [evA]; rfl)
theorem q_seq {e : E} : evI C (.seq e) (s :: ρ) = (evE C e (s :: ρ)).bind fun p => (frz p.2 p.1).bind fun q => (seqOf q.1).map fun xs => (xs, q.2) := by simp only [evI]
theorem q_rng1 {a : E} : evI C (.rng1 a) (s :: ρ) = (evE C a (s :: ρ)).bind fun p => (cont p.2 p.1).bind fun x => (intOf x).bind fun n => if n ≤ 16777216 ∧ -16777216 ≤ n then some ((List.range n.toNat).map fun k => .int (k : Nat), p.2) else none := by simp only [evI]
theorem q_rng2 {a b : E} : evI C (.rng2 a b) (s :: ρ) = (evE C a (s :: ρ)).bind fun p => (evE C b p.2).bind fun q => (cont q.2 p.1).bind fun x => (cont q.2 q.1).bind fun y => (intOf x).bind fun m => (intOf y).bind fun n =>
      if (-8388608 ≤ m ∧ m ≤ 8388608) ∧ (-8388608 ≤ n ∧ n ≤ 8388608) then some ((List.range (n - m).toNat).map fun k => .int (m + (k : Nat)), q.2) else none := by simp only [evI]
theorem q_zip {a b : E} : evI C (.zip a b) (s :: ρ) = (evE C a (s :: ρ)).bind fun p => (frz p.2 p.1).bind fun p' => (evE C b p'.2).bind fun q => (frz q.2 q.1).bind fun q' => (zipEv p'.1 q'.1).map fun xs => (xs, q'.2) := by simp only [evI]
theorem q_enm {a : E} : evI C (.enm a) (s :: ρ) = (evE C a (s :: ρ)).bind fun p => (frz p.2 p.1).bind fun q => (enmEv q.1).map fun xs => (xs, q.2) := by simp only [evI]
theorem q_T {e : E} : evT C e (s :: ρ) = (evE C e (s :: ρ)).bind fun p => (cont p.2 p.1).bind fun x => (truth x).map fun t => (t, p.2) := rfl
theorem q_sh {d : D} : cont (s :: ρ) (.sh d) = some d := rfl
theorem q_fr {d : D} : cont (s :: ρ) (.fr d) = some d := rfl
theorem q_pk {i : Nat} : cont (s :: ρ) (.pk i) = match Env.at (s :: ρ) i with
    | .sh d => some d
    | .ow _ d => some d
    | .un => none := rfl
theorem q_fsh {d : D} : frz (s :: ρ) (.sh d) = some (d, s :: ρ) := rfl
theorem q_ffr {d : D} : frz (s :: ρ) (.fr d) = some (d, s :: ρ) := rfl
theorem q_fpk {i : Nat} : frz (s :: ρ) (.pk i) = match Env.at (s :: ρ) i with
    | .sh d => some (d, s :: ρ)
    | .ow none d => some (d, (s :: ρ).set i (.sh d))
    | _ => none := rfl
theorem q_cnil : conts (s :: ρ) [] = some [] := rfl
theorem q_ccons {r : RV} {rs : List RV} : conts (s :: ρ) (r :: rs) = (cont (s :: ρ) r).bind fun d => (conts (s :: ρ) rs).bind fun ds => some (d :: ds) := rfl
theorem q_aanil : apArgs (s :: ρ) [] = some [] := rfl
theorem q_aash {d : D} {r : List Ap} : apArgs (s :: ρ) (.sh d :: r) = (apArgs (s :: ρ) r).bind fun as => some (.sh d :: as) := rfl
theorem q_aaio {i : Nat} {r : List Ap} : apArgs (s :: ρ) (.io i :: r) = match Env.at (s :: ρ) i with
    | .ow _ d => (apArgs (s :: ρ) r).bind fun as => some (.io d :: as)
    | _ => none := rfl
theorem q_gnil : giveBack (s :: ρ) [] [] = some (s :: ρ) := rfl
theorem q_gcons {i : Nat} {is : List Nat} {d : D} {ds : List D} : giveBack (s :: ρ) (i :: is) (d :: ds) = match Env.at (s :: ρ) i with
    | .ow t _ => giveBack ((s :: ρ).set i (.ow t d)) is ds
    | _ => none := rfl
theorem q_pnm {r : RV} {i : Nat} : put1 C r (.nm i) (s :: ρ) = putR (s :: ρ) i r := rfl
theorem q_pix {r : RV} {i : Nat} {e : E} : put1 C r (.ix i e) (s :: ρ) = (frz (s :: ρ) r).bind fun z => match z.2.at i with
    | .ow _ _ => (evE C e z.2).bind fun p => (frz p.2 p.1).bind fun q => match q.2.at i with
      | .ow t c => (setIx c q.1 z.1).map fun c' => q.2.set i (.ow t c')
      | _ => none
    | _ => none := rfl
theorem q_rsh {i : Nat} {d : D} : putR (s :: ρ) i (.sh d) = some ((s :: ρ).set i (.sh d)) := rfl
theorem q_rfr {i : Nat} {d : D} : putR (s :: ρ) i (.fr d) = some ((s :: ρ).set i (.ow none d)) := rfl
theorem q_rpk {i j : Nat} : putR (s :: ρ) i (.pk j) = (frz (s :: ρ) (.pk j)).map fun p => p.2.set i (.sh p.1) := rfl
theorem q_Nnil : putN C .nil [] (s :: ρ) = some (s :: ρ) := rfl
theorem q_Ncons {t : T1} {ts : Ts} {r : RV} {rs : List RV} : putN C (.cons t ts) (r :: rs) (s :: ρ) = (put1 C r t (s :: ρ)).bind fun ρ1 => putN C ts rs ρ1 := rfl
theorem q_Pnil : evP C .nil (s :: ρ) = some ([], s :: ρ) := rfl
theorem q_Pcons {e : E} {es : Es} : evP C (.cons e es) (s :: ρ) = (evE C e (s :: ρ)).bind fun p => match p.1 with
    | .pk i => (frz p.2 (.pk i)).bind fun z => (evP C es z.2).bind fun q => some (.sh z.1 :: q.1, q.2)
    | r => (evP C es p.2).bind fun q => some (r :: q.1, q.2) := rfl
theorem q_tsh {d : D} : retR (s :: ρ) (.sh d) = some (false, d) := rfl
theorem q_tfr {d : D} : retR (s :: ρ) (.fr d) = some (true, d) := rfl
theorem q_tpk {i : Nat} : retR (s :: ρ) (.pk i) = match Env.at (s :: ρ) i with
    | .sh d => some (false, d)
    | .ow none d => some (true, d)
    | _ => none := rfl
theorem q_Sexpr {e : E} : evS C (.expr e) (s :: ρ) = (evE C e (s :: ρ)).map fun p => (.nx, p.2) := by simp only [evS]
theorem q_Sset {t : T1} {e : E} : evS C (.set t e) (s :: ρ) = (evE C e (s :: ρ)).bind fun p => (put1 C p.1 t p.2).map fun ρ' => (.nx, ρ') := by simp only [evS]
theorem q_Spar {ts : Ts} {es : Es} : evS C (.par ts es) (s :: ρ) = (evP C es (s :: ρ)).bind fun p => (putN C ts p.1 p.2).map fun ρ' => (.nx, ρ') := by simp only [evS]
theorem q_Sunp {is : List Nat} {e : E} : evS C (.unp is e) (s :: ρ) = (evE C e (s :: ρ)).bind fun p => (frz p.2 p.1).bind fun q => (seqOf q.1).bind fun ds => (setAll is ds q.2).map fun ρ' => (.nx, ρ') := by simp only [evS]
theorem q_Siff {c : E} {a b : Ss} : evS C (.iff c a b) (s :: ρ) = (evT C c (s :: ρ)).bind fun t => if t.1 = true then evSs C a t.2 else evSs C b t.2 := by simp only [evS]
theorem q_Sret {e : E} : evS C (.ret e) (s :: ρ) = (evE C e (s :: ρ)).bind fun p => (retR p.2 p.1).map fun q => (.rt q.1 q.2, p.2) := by simp only [evS]
theorem q_SretN : evS C .retN (s :: ρ) = some (.rt false .none, s :: ρ) := by simp only [evS]
theorem q_Swipe {is : List Nat} : evS C (.wipe is) (s :: ρ) = some (.nx, wipeE (s :: ρ) is) := by simp only [evS]
theorem q_SSnil : evSs C .nil (s :: ρ) = some (.nx, s :: ρ) := by simp only [evSs]
theorem q_SScons {t : S} {ss : Ss} : evSs C (.cons t ss) (s :: ρ) = (evS C t (s :: ρ)).bind fun p => match p.1 with
    | .nx => evSs C ss p.2
    | .rt b d => some (.rt b d, p.2) := by first | (simp only [evSs]; done) | (simp only [evSs]; rfl)
theorem q_at0 : Env.at (s :: ρ) 0 = s := rfl
theorem q_atS {i : Nat} : Env.at (s :: ρ) (i + 1) = Env.at ρ i := by simp [Env.at]
theorem q_wnil : wipeE (s :: ρ) [] = s :: ρ := rfl
theorem q_wcons {i : Nat} {is : List Nat} : wipeE (s :: ρ) (i :: is) = (wipeE (s :: ρ) is).set i .un := rfl
theorem q_bnm {i : Nat} {d : D} : bindT (.nm i) d (s :: ρ) = some ((s :: ρ).set i (.sh d)) := rfl
theorem q_btp {is : List Nat} {ds : List D} : bindT (.tp is) (.tuple ds) (s :: ρ) = setAll is ds (s :: ρ) := rfl
theorem q_btl {is : List Nat} {ds : List D} : bindT (.tp is) (.list ds) (s :: ρ) = setAll is ds (s :: ρ) := rfl
theorem q_snil : setAll [] [] (s :: ρ) = some (s :: ρ) := rfl
theorem q_scons {i : Nat} {is : List Nat} {d : D} {ds : List D} : setAll (i :: is) (d :: ds) (s :: ρ) = setAll is ds ((s :: ρ).set i (.sh d)) := rfl
theorem q_comp {elt : E} {tg : Tg} {ifs : Es} {x : D} : compB C elt tg ifs x (s :: ρ) = (bindT tg x (s :: ρ)).bind fun ρ1 => (evF C ifs ρ1).bind fun t => if t.1 = true then (evE C elt t.2).bind fun r => (frz r.2 r.1).map fun z => (some z.1, wipeE z.2 tg.slots)
  else some (none, wipeE t.2 tg.slots) := rfl
theorem q_dcomp {k v : E} {tg : Tg} {ifs : Es} {x : D} : dcompB C k v tg ifs x (s :: ρ) = (bindT tg x (s :: ρ)).bind fun ρ1 => (evF C ifs ρ1).bind fun t => if t.1 = true then (evE C k t.2).bind fun r => (frz r.2 r.1).bind fun z => (evE C v z.2).bind fun r' => (frz r'.2 r'.1).map fun z' =>
    (some (.tuple [z.1, z'.1]), wipeE z'.2 tg.slots)
  else some (none, wipeE t.2 tg.slots) := rfl
theorem q_onil {p k : Nat} : endOuts (s :: ρ) [] p k = some [] := rfl
theorem q_osh {d : D} {r : List Ar} {p k : Nat} : endOuts (s :: ρ) (.sh d :: r) p k = endOuts (s :: ρ) r (p + 1) k := rfl
theorem q_oio {d : D} {r : List Ar} {p k : Nat} : endOuts (s :: ρ) (.io d :: r) p k = match Env.at (s :: ρ) p with
    | .ow (some k') d => if k' = k then (endOuts (s :: ρ) r (p + 1) (k + 1)).map (d :: ·) else none
    | _ => none := rfl
end
/-! values -/
theorem place_nat {n k : Nat} (h : k < n) : placeOf n (k : Int) = some k := by
  unfold placeOf
  rw [if_pos (by omega), if_pos (by omega)]
  simp
theorem ix_list {xs : List D} {k : Nat} {d : D} (h : xs[k]? = some d) : ixEv (.list xs) (.int (k : Int)) = some d := by
  have hk := (List.getElem?_eq_some_iff.mp h).1
  unfold ixEv
  simp only [place_nat hk, Option.bind_some, h]
theorem ix_tuple {xs : List D} {k : Nat} {d : D} (h : xs[k]? = some d) : ixEv (.tuple xs) (.int (k : Int)) = some d := by
  have hk := (List.getElem?_eq_some_iff.mp h).1
  unfold ixEv
  simp only [place_nat hk, Option.bind_some, h]
theorem ix_0 {x : D} {xs : List D} : ixEv (.list (x :: xs)) (.int 0) = some x := ix_list (k := 0) rfl
theorem ix_1 {x y : D} {xs : List D} : ixEv (.list (x :: y :: xs)) (.int 1) = some y := ix_list (k := 1) rfl
theorem ix_2 {x y z : D} {xs : List D} : ixEv (.list (x :: y :: z :: xs)) (.int 2) = some z := ix_list (k := 2) rfl
theorem ix_3 {x y z u : D} {xs : List D} : ixEv (.list (x :: y :: z :: u :: xs)) (.int 3) = some u := ix_list (k := 3) rfl
theorem ix_4 {x y z u v : D} {xs : List D} : ixEv (.list (x :: y :: z :: u :: v :: xs)) (.int 4) = some v := ix_list (k := 4) rfl
theorem ixt_0 {x : D} {xs : List D} : ixEv (.tuple (x :: xs)) (.int 0) = some x := ix_tuple (k := 0) rfl
theorem ixt_1 {x y : D} {xs : List D} : ixEv (.tuple (x :: y :: xs)) (.int 1) = some y := ix_tuple (k := 1) rfl
theorem sx_nat {xs : List D} {k : Nat} {v : D} (h : k < xs.length) (h2 : k < 1000000) : setIx (.list xs) (.int (k : Int)) v = some (.list (xs.set k v)) := by
  unfold setIx
  simp only [place_nat h, Option.bind_some]
  rw [if_pos (by omega)]
theorem sx_1 {x y v : D} {xs : List D} : setIx (.list (x :: y :: xs)) (.int 1) v = some (.list (x :: v :: xs)) := sx_nat (k := 1) (by simp) (by omega)
theorem sx_2 {x y z v : D} {xs : List D} : setIx (.list (x :: y :: z :: xs)) (.int 2) v = some (.list (x :: y :: v :: xs)) := sx_nat (k := 2) (by simp) (by omega)
theorem sx_3 {x y z u v : D} {xs : List D} : setIx (.list (x :: y :: z :: u :: xs)) (.int 3) v = some (.list (x :: y :: z :: v :: xs)) := sx_nat (k := 3) (by simp) (by omega)
theorem sx_4 {x y z u w v : D} {xs : List D} : setIx (.list (x :: y :: z :: u :: w :: xs)) (.int 4) v = some (.list (x :: y :: z :: u :: v :: xs)) := sx_nat (k := 4) (by simp) (by omega)
theorem eq_int (a b : Int) : cmpEv .eq (.int a) (.int b) = some (decide (a = b)) := eq_enc (α := Int) (by decide) a b
theorem ne_int (a b : Int) : cmpEv .ne (.int a) (.int b) = some (!decide (a = b)) := ne_enc (α := Int) (by decide) a b
theorem lt_int (a b : Int) : cmpEv .lt (.int a) (.int b) = some (decide (a < b)) := rfl
theorem gt_int (a b : Int) : cmpEv .gt (.int a) (.int b) = some (decide (b < a)) := rfl
theorem le_int (a b : Int) : cmpEv .le (.int a) (.int b) = some (decide (a ≤ b)) := rfl
theorem ge_int (a b : Int) : cmpEv .ge (.int a) (.int b) = some (decide (b ≤ a)) := rfl
theorem isin_ev (x y : D) : cmpEv .isin x y = inEv x y := rfl
theorem notin_ev (x y : D) : cmpEv .notin x y = (inEv x y).map (!·) := rfl
theorem add_int (a b : Int) : op2Ev .add (.int a) (.int b) = some (.sh (.int (a + b))) := rfl
theorem sub_int (a b : Int) : op2Ev .sub (.int a) (.int b) = some (.sh (.int (a - b))) := rfl
theorem mul_r {a b : Int} (h : b.natAbs < 18446744073709551616) : op2Ev .mul (.int a) (.int b) = some (.sh (.int (a * b))) := by
  simp only [op2Ev]; rw [if_pos (.inl (.inr h))]
theorem mul_l {a b : Int} (h : a.natAbs < 18446744073709551616) : op2Ev .mul (.int a) (.int b) = some (.sh (.int (a * b))) := by
  simp only [op2Ev]; rw [if_pos (.inl (.inl h))]
theorem mod_int {a b : Int} (h : b ≠ 0) : op2Ev .mod (.int a) (.int b) = some (.sh (.int (a.fmod b))) := by
  simp only [op2Ev]; exact if_pos h
theorem fdiv_int {a b : Int} (h : b ≠ 0) (h2 : b.natAbs < 1073741824) : op2Ev .fdiv (.int a) (.int b) = some (.sh (.int (a.fdiv b))) := by
  simp only [op2Ev]; rw [if_pos (.inl ⟨h, h2⟩)]
theorem pow_10_18 : op2Ev .pow (.int 10) (.int 18) = some (.sh (.int 1000000000000000000)) := by
  simp only [op2Ev]; rw [if_pos (by decide)]; rfl
theorem cat_list {xs ys : List D} (h : xs.length + ys.length ≤ 16777216) : op2Ev .add (.list xs) (.list ys) = some (.fr (.list (xs ++ ys))) := by
  simp only [op2Ev]; exact if_pos h
theorem cat_tup {xs ys : List D} (h : xs.length + ys.length ≤ 16777216) : op2Ev .add (.tuple xs) (.tuple ys) = some (.sh (.tuple (xs ++ ys))) := by
  simp only [op2Ev]; exact if_pos h
theorem tr_bool (b : Bool) : truth (.bool b) = some b := rfl
theorem io_int (b : Int) : intOf (.int b) = some b := rfl
theorem so_list (xs : List D) : seqOf (.list xs) = some xs := rfl
theorem so_tup (xs : List D) : seqOf (.tuple xs) = some xs := rfl
theorem len_list (xs : List D) : biEv .len [.list xs] = some (.sh (.int xs.length)) := rfl
theorem len_tup (xs : List D) : biEv .len [.tuple xs] = some (.sh (.int xs.length)) := rfl
theorem int_int (a : Int) : biEv .int [.int a] = some (.sh (.int a)) := rfl
theorem abs_int (a : Int) : biEv .abs [.int a] = some (.sh (.int (if a < 0 then -a else a))) := rfl
theorem tup_list (xs : List D) : biEv .tup [.list xs] = some (.sh (.tuple xs)) := rfl
theorem tup_tup (xs : List D) : biEv .tup [.tuple xs] = some (.sh (.tuple xs)) := rfl
theorem lst_list (xs : List D) : biEv .lst [.list xs] = some (.fr (.list xs)) := rfl
theorem lst_tup (xs : List D) : biEv .lst [.tuple xs] = some (.fr (.list xs)) := rfl
theorem isi_ev1 (ts : List Ty) (d : D) (h : scrD d = false) : biEv (.isi ts) [d] = some (.sh (.bool (ts.any fun t => isTy t d))) := by
  simp only [biEv, h, Bool.false_eq_true, if_false]
theorem bols_map {α : Type} (f : α → Bool) : ∀ xs : List α, bolsOf (xs.map fun a => .bool (f a)) = some (xs.map f)
  | [] => rfl
  | x :: xs => by simp [bolsOf, bolOf, bols_map f xs]
theorem all_map {α : Type} (f : α → Bool) (xs : List α) : biEv .all [.list (xs.map fun a => .bool (f a))] = some (.sh (.bool (xs.all f))) := by
  simp only [biEv, bols_map, Option.map_some]
  congr 3
  simp [List.all_map]
theorem any_map {α : Type} (f : α → Bool) (xs : List α) : biEv .any [.list (xs.map fun a => .bool (f a))] = some (.sh (.bool (xs.any f))) := by
  simp only [biEv, bols_map, Option.map_some]
  congr 3
  simp [List.any_map]
theorem ints_map {α : Type} (f : α → Int) : ∀ xs : List α, intsOf (xs.map fun a => .int (f a)) = some (xs.map f)
  | [] => rfl
  | x :: xs => by simp [intsOf, intOf, ints_map f xs]
theorem sum_map {α : Type} (f : α → Int) (xs : List α) : biEv .sum [.list (xs.map fun a => .int (f a))] = some (.sh (.int (xs.map f).sum)) := by
  simp only [biEv, seqOf, Option.bind_some, ints_map, Option.map_some]
theorem app_ev {xs : List D} {x : D} (h : xs.length < 16777216) : muEv .append (.list xs) [x] = some (.none, .list (xs ++ [x])) := by
  simp only [muEv]; exact if_pos h
end PI

set_option Elab.async false
set_option linter.all false
set_option maxRecDepth 100000
set_option maxHeartbeats 4000000
/-! QB: the hand that draws (the laws on best lots). -/
namespace PI
set_option autoImplicit false
open PySem PySem.W
def g_law_draw : Ss := (.cons (.iff (.and (.cmp .eq (.ix (.v 0) (.con (.int 2))) (.con (.int 0))) (.cmp .lt (.ix (.v 0) (.con (.int 1))) (.bi .len (.cons (.ix (.v 0) (.con (.int 0))) .nil)))) (.cons (.set (.nm 3) (.ix (.ix (.v 0) (.con (.int 0))) (.ix (.v 0) (.con (.int 1))))) (.cons (.set (.ix 0 (.con (.int 1))) (.op2 .add (.ix (.v 0) (.con (.int 1))) (.con (.int 1)))) (.cons (.set (.ix 0 (.con (.int 3))) (.op2 .mod (.bi .int (.cons (.op2 .add (.op2 .add (.op2 .mul (.ix (.v 0) (.con (.int 3))) (.con (.int 48271))) (.v 3)) (.con (.int 31))) .nil)) (.con (.int 2147483647)))) (.cons (.iff (.cmp .ge (.v 3) (.op2 .pow (.con (.int 10)) (.con (.int 18)))) (.cons (.set (.ix 0 (.con (.int 2))) (.v 3)) .nil) .nil) (.cons (.wipe [3]) .nil))))) .nil) (.cons (.iff (.cmp .gt (.ix (.v 0) (.con (.int 2))) (.con (.int 0))) (.cons (.set (.nm 4) (.op2 .mod (.bi .int (.cons (.ix (.v 0) (.con (.int 2))) .nil)) (.v 1))) (.cons (.set (.ix 0 (.con (.int 2))) (.op2 .fdiv (.ix (.v 0) (.con (.int 2))) (.v 1))) (.cons (.ret (.v 4)) .nil))) .nil) (.cons (.set (.ix 0 (.con (.int 4))) (.op2 .add (.ix (.v 0) (.con (.int 4))) (.con (.int 1)))) (.cons (.set (.nm 2) (.op2 .mod (.bi .int (.cons (.op2 .mul (.bi .int (.cons (.op2 .add (.ix (.v 0) (.con (.int 3))) (.op2 .mul (.con (.int 6151)) (.ix (.v 0) (.con (.int 4))))) .nil)) (.con (.int 40692))) .nil)) (.con (.int 2147483399)))) (.cons (.set (.nm 2) (.op2 .mod (.bi .int (.cons (.op2 .mul (.v 2) (.op2 .add (.op2 .fdiv (.v 2) (.con (.int 1223))) (.con (.int 52027)))) .nil)) (.con (.int 2147483629)))) (.cons (.set (.nm 2) (.op2 .mod (.bi .int (.cons (.op2 .mul (.v 2) (.op2 .add (.op2 .fdiv (.v 2) (.con (.int 2671))) (.con (.int 69621)))) .nil)) (.con (.int 2147483647)))) (.cons (.ret (.op2 .mod (.bi .int (.cons (.op2 .fdiv (.v 2) (.con (.int 32))) .nil)) (.v 1))) .nil)))))))
def HandOk (h : D) : Prop := ∃ (cells : List Int) (a b c e : Int), h = .list [.list (cells.map PyData.int), .int a, .int b, .int c, .int e] ∧ 0 ≤ a
theorem draw_ok {C : Ctx} {h : D} {many : Int} (hh : HandOk h) (h1 : 0 < many) (h2 : many < 1000000) : ∃ fig h', callB C 5 g_law_draw [.io h, .sh (.int many)] = some (false, .int fig, [h']) ∧ 0 ≤ fig ∧ fig < many ∧ HandOk h' := by
  obtain ⟨cells, a, b, c, e, rfl, ha⟩ := hh
  unfold callB g_law_draw
  rw [show startE 5 [Ar.io (.list [.list (cells.map PyData.int), .int a, .int b, .int c, .int e]), .sh (.int many)] = [.ow (some 0) (.list [.list (cells.map PyData.int), .int a, .int b, .int c, .int e]), .sh (.int many), .un, .un, .un] from rfl]
  have hm : many ≠ 0 := by omega
  have hm2 : many.natAbs < 1073741824 := by omega
  have m1 : ∀ x : Int, op2Ev .mul (.int x) (.int 48271) = some (.sh (.int (x * 48271))) := fun x => mul_r (by decide)
  have m2 : ∀ x : Int, op2Ev .mul (.int 6151) (.int x) = some (.sh (.int (6151 * x))) := fun x => mul_l (by decide)
  have m3 : ∀ x : Int, op2Ev .mul (.int x) (.int 40692) = some (.sh (.int (x * 40692))) := fun x => mul_r (by decide)
  have d1 : ∀ x : Int, op2Ev .mod (.int x) (.int 2147483647) = some (.sh (.int (x.fmod 2147483647))) := fun x => mod_int (by decide)
  have d2 : ∀ x : Int, op2Ev .mod (.int x) (.int 2147483399) = some (.sh (.int (x.fmod 2147483399))) := fun x => mod_int (by decide)
  have d3 : ∀ x : Int, op2Ev .mod (.int x) (.int 2147483629) = some (.sh (.int (x.fmod 2147483629))) := fun x => mod_int (by decide)
  have f1 : ∀ x : Int, op2Ev .fdiv (.int x) (.int 1223) = some (.sh (.int (x.fdiv 1223))) := fun x => fdiv_int (by decide) (by decide)
  have f2 : ∀ x : Int, op2Ev .fdiv (.int x) (.int 2671) = some (.sh (.int (x.fdiv 2671))) := fun x => fdiv_int (by decide) (by decide)
  have f3 : ∀ x : Int, op2Ev .fdiv (.int x) (.int 32) = some (.sh (.int (x.fdiv 32))) := fun x => fdiv_int (by decide) (by decide)
  have u1 : ∀ x y : Int, op2Ev .mul (.int (x.fmod 2147483399)) (.int y) = some (.sh (.int (x.fmod 2147483399 * y))) := fun x y => mul_l (by
    have := Int.fmod_nonneg_of_pos x (b := 2147483399) (by decide)
    have := Int.fmod_lt_of_pos x (b := 2147483399) (by decide)
    omega)
  have u2 : ∀ x y : Int, op2Ev .mul (.int (x.fmod 2147483629)) (.int y) = some (.sh (.int (x.fmod 2147483629 * y))) := fun x y => mul_l (by
    have := Int.fmod_nonneg_of_pos x (b := 2147483629) (by decide)
    have := Int.fmod_lt_of_pos x (b := 2147483629) (by decide)
    omega)
  have dm : ∀ x : Int, op2Ev .mod (.int x) (.int many) = some (.sh (.int (x.fmod many))) := fun x => mod_int hm
  have fm : ∀ x : Int, op2Ev .fdiv (.int x) (.int many) = some (.sh (.int (x.fdiv many))) := fun x => fdiv_int hm hm2
  have fin : ∀ x : Int, 0 ≤ x.fmod many ∧ x.fmod many < many := fun x => ⟨Int.fmod_nonneg_of_pos x h1, Int.fmod_lt_of_pos x h1⟩
  by_cases hb : b = 0
  · subst hb
    by_cases hl : a < cells.length
    · obtain ⟨k, rfl⟩ : ∃ k : Nat, a = k := ⟨a.toNat, by omega⟩
      have hk : k < cells.length := by omega
      have gk : ixEv (.list (cells.map PyData.int)) (.int (k : Int)) = some (.int cells[k]) := ix_list (by simp [hk])
      by_cases hc : (1000000000000000000 : Int) ≤ cells[k]
      · have pos : (0 : Int) < cells[k] := by omega
        simp only [q_v, q_con, q_glo, q_no, q_tup, q_lst, q_dnk, q_op2, q_neg, q_cmp, q_cmp2, q_and, q_or, q_not, q_ite, q_bi, q_lrng, q_mu, q_call, q_ix, q_sl, q_rev, q_lnil, q_lcons, q_rnil, q_rcons, q_fnil, q_fcons, q_anil, q_aval, q_aio, q_seq, q_rng1, q_rng2, q_zip, q_enm, q_T, q_sh, q_fr, q_pk, q_fsh, q_ffr, q_fpk, q_cnil, q_ccons, q_aanil, q_aash, q_aaio, q_gnil, q_gcons, q_pnm, q_pix, q_rsh, q_rfr, q_rpk, q_Nnil, q_Ncons, q_Pnil, q_Pcons, q_tsh, q_tfr, q_tpk, q_Sexpr, q_Sset, q_Spar, q_Sunp, q_Siff, q_Sret, q_SretN, q_Swipe, q_SSnil, q_SScons, q_at0, q_atS, q_wnil, q_wcons, q_bnm, q_btp, q_btl, q_snil, q_scons, q_comp, q_dcomp, q_onil, q_osh, q_oio, Option.bind_some, Option.map_some, Option.bind_none, Option.map_none, List.set_cons_zero, List.set_cons_succ, Tg.slots, muK, muF, if_true, Bool.false_eq_true, if_false, ix_0, ix_1, ix_2, ix_3, ix_4, ixt_0, ixt_1, sx_1, sx_2, sx_3, sx_4, eq_int, ne_int, lt_int, gt_int, le_int, ge_int, isin_ev, notin_ev, add_int, sub_int, pow_10_18, tr_bool, io_int, so_list, so_tup, len_list, len_tup, int_int, abs_int, tup_list, tup_tup, lst_list, lst_tup, apSlots, Bool.not_true, Bool.not_false, decide_true, decide_false, reduceIte, reduceCtorEq, Nat.reduceAdd, List.length_map, decide_eq_true hl, gk, m1, d1, decide_eq_true hc, decide_eq_true pos, dm, fm]
        exact ⟨_, _, rfl, (fin _).1, (fin _).2, cells, _, _, _, _, rfl, by omega⟩
      · simp only [q_v, q_con, q_glo, q_no, q_tup, q_lst, q_dnk, q_op2, q_neg, q_cmp, q_cmp2, q_and, q_or, q_not, q_ite, q_bi, q_lrng, q_mu, q_call, q_ix, q_sl, q_rev, q_lnil, q_lcons, q_rnil, q_rcons, q_fnil, q_fcons, q_anil, q_aval, q_aio, q_seq, q_rng1, q_rng2, q_zip, q_enm, q_T, q_sh, q_fr, q_pk, q_fsh, q_ffr, q_fpk, q_cnil, q_ccons, q_aanil, q_aash, q_aaio, q_gnil, q_gcons, q_pnm, q_pix, q_rsh, q_rfr, q_rpk, q_Nnil, q_Ncons, q_Pnil, q_Pcons, q_tsh, q_tfr, q_tpk, q_Sexpr, q_Sset, q_Spar, q_Sunp, q_Siff, q_Sret, q_SretN, q_Swipe, q_SSnil, q_SScons, q_at0, q_atS, q_wnil, q_wcons, q_bnm, q_btp, q_btl, q_snil, q_scons, q_comp, q_dcomp, q_onil, q_osh, q_oio, Option.bind_some, Option.map_some, Option.bind_none, Option.map_none, List.set_cons_zero, List.set_cons_succ, Tg.slots, muK, muF, if_true, Bool.false_eq_true, if_false, ix_0, ix_1, ix_2, ix_3, ix_4, ixt_0, ixt_1, sx_1, sx_2, sx_3, sx_4, eq_int, ne_int, lt_int, gt_int, le_int, ge_int, isin_ev, notin_ev, add_int, sub_int, pow_10_18, tr_bool, io_int, so_list, so_tup, len_list, len_tup, int_int, abs_int, tup_list, tup_tup, lst_list, lst_tup, apSlots, Bool.not_true, Bool.not_false, decide_true, decide_false, reduceIte, reduceCtorEq, Nat.reduceAdd, List.length_map, decide_eq_true hl, gk, m1, m2, m3, d1, d2, d3, decide_eq_false hc, f1, f2, f3, u1, u2, dm, fm, Int.lt_irrefl]
        exact ⟨_, _, rfl, (fin _).1, (fin _).2, cells, _, _, _, _, rfl, by omega⟩
    · simp only [q_v, q_con, q_glo, q_no, q_tup, q_lst, q_dnk, q_op2, q_neg, q_cmp, q_cmp2, q_and, q_or, q_not, q_ite, q_bi, q_lrng, q_mu, q_call, q_ix, q_sl, q_rev, q_lnil, q_lcons, q_rnil, q_rcons, q_fnil, q_fcons, q_anil, q_aval, q_aio, q_seq, q_rng1, q_rng2, q_zip, q_enm, q_T, q_sh, q_fr, q_pk, q_fsh, q_ffr, q_fpk, q_cnil, q_ccons, q_aanil, q_aash, q_aaio, q_gnil, q_gcons, q_pnm, q_pix, q_rsh, q_rfr, q_rpk, q_Nnil, q_Ncons, q_Pnil, q_Pcons, q_tsh, q_tfr, q_tpk, q_Sexpr, q_Sset, q_Spar, q_Sunp, q_Siff, q_Sret, q_SretN, q_Swipe, q_SSnil, q_SScons, q_at0, q_atS, q_wnil, q_wcons, q_bnm, q_btp, q_btl, q_snil, q_scons, q_comp, q_dcomp, q_onil, q_osh, q_oio, Option.bind_some, Option.map_some, Option.bind_none, Option.map_none, List.set_cons_zero, List.set_cons_succ, Tg.slots, muK, muF, if_true, Bool.false_eq_true, if_false, ix_0, ix_1, ix_2, ix_3, ix_4, ixt_0, ixt_1, sx_1, sx_2, sx_3, sx_4, eq_int, ne_int, lt_int, gt_int, le_int, ge_int, isin_ev, notin_ev, add_int, sub_int, pow_10_18, tr_bool, io_int, so_list, so_tup, len_list, len_tup, int_int, abs_int, tup_list, tup_tup, lst_list, lst_tup, apSlots, Bool.not_true, Bool.not_false, decide_true, decide_false, reduceIte, reduceCtorEq, Nat.reduceAdd, List.length_map, decide_eq_false hl, m1, m2, m3, d1, d2, d3, f1, f2, f3, u1, u2, dm, fm, Int.lt_irrefl]
      exact ⟨_, _, rfl, (fin _).1, (fin _).2, cells, _, _, _, _, rfl, ha⟩
  · by_cases hp : 0 < b
    · simp only [q_v, q_con, q_glo, q_no, q_tup, q_lst, q_dnk, q_op2, q_neg, q_cmp, q_cmp2, q_and, q_or, q_not, q_ite, q_bi, q_lrng, q_mu, q_call, q_ix, q_sl, q_rev, q_lnil, q_lcons, q_rnil, q_rcons, q_fnil, q_fcons, q_anil, q_aval, q_aio, q_seq, q_rng1, q_rng2, q_zip, q_enm, q_T, q_sh, q_fr, q_pk, q_fsh, q_ffr, q_fpk, q_cnil, q_ccons, q_aanil, q_aash, q_aaio, q_gnil, q_gcons, q_pnm, q_pix, q_rsh, q_rfr, q_rpk, q_Nnil, q_Ncons, q_Pnil, q_Pcons, q_tsh, q_tfr, q_tpk, q_Sexpr, q_Sset, q_Spar, q_Sunp, q_Siff, q_Sret, q_SretN, q_Swipe, q_SSnil, q_SScons, q_at0, q_atS, q_wnil, q_wcons, q_bnm, q_btp, q_btl, q_snil, q_scons, q_comp, q_dcomp, q_onil, q_osh, q_oio, Option.bind_some, Option.map_some, Option.bind_none, Option.map_none, List.set_cons_zero, List.set_cons_succ, Tg.slots, muK, muF, if_true, Bool.false_eq_true, if_false, ix_0, ix_1, ix_2, ix_3, ix_4, ixt_0, ixt_1, sx_1, sx_2, sx_3, sx_4, eq_int, ne_int, lt_int, gt_int, le_int, ge_int, isin_ev, notin_ev, add_int, sub_int, pow_10_18, tr_bool, io_int, so_list, so_tup, len_list, len_tup, int_int, abs_int, tup_list, tup_tup, lst_list, lst_tup, apSlots, Bool.not_true, Bool.not_false, decide_true, decide_false, reduceIte, reduceCtorEq, Nat.reduceAdd, List.length_map, decide_eq_false hb, decide_eq_true hp, dm, fm]
      exact ⟨_, _, rfl, (fin _).1, (fin _).2, cells, _, _, _, _, rfl, ha⟩
    · simp only [q_v, q_con, q_glo, q_no, q_tup, q_lst, q_dnk, q_op2, q_neg, q_cmp, q_cmp2, q_and, q_or, q_not, q_ite, q_bi, q_lrng, q_mu, q_call, q_ix, q_sl, q_rev, q_lnil, q_lcons, q_rnil, q_rcons, q_fnil, q_fcons, q_anil, q_aval, q_aio, q_seq, q_rng1, q_rng2, q_zip, q_enm, q_T, q_sh, q_fr, q_pk, q_fsh, q_ffr, q_fpk, q_cnil, q_ccons, q_aanil, q_aash, q_aaio, q_gnil, q_gcons, q_pnm, q_pix, q_rsh, q_rfr, q_rpk, q_Nnil, q_Ncons, q_Pnil, q_Pcons, q_tsh, q_tfr, q_tpk, q_Sexpr, q_Sset, q_Spar, q_Sunp, q_Siff, q_Sret, q_SretN, q_Swipe, q_SSnil, q_SScons, q_at0, q_atS, q_wnil, q_wcons, q_bnm, q_btp, q_btl, q_snil, q_scons, q_comp, q_dcomp, q_onil, q_osh, q_oio, Option.bind_some, Option.map_some, Option.bind_none, Option.map_none, List.set_cons_zero, List.set_cons_succ, Tg.slots, muK, muF, if_true, Bool.false_eq_true, if_false, ix_0, ix_1, ix_2, ix_3, ix_4, ixt_0, ixt_1, sx_1, sx_2, sx_3, sx_4, eq_int, ne_int, lt_int, gt_int, le_int, ge_int, isin_ev, notin_ev, add_int, sub_int, pow_10_18, tr_bool, io_int, so_list, so_tup, len_list, len_tup, int_int, abs_int, tup_list, tup_tup, lst_list, lst_tup, apSlots, Bool.not_true, Bool.not_false, decide_true, decide_false, reduceIte, reduceCtorEq, Nat.reduceAdd, List.length_map, decide_eq_false hb, decide_eq_false hp, m1, m2, m3, d1, d2, d3, f1, f2, f3, u1, u2, dm, fm]
      exact ⟨_, _, rfl, (fin _).1, (fin _).2, cells, _, _, _, _, rfl, ha⟩
def g_law_hand : Ss := (.cons (.set (.nm 1) (.comp (.bi .abs (.cons (.bi .int (.cons (.v 2) .nil)) .nil)) (.nm 2) (.seq (.sl (.v 0) .no (.con (.int 63)))) .nil)) (.cons (.ret (.lst (.cons (.v 1) (.cons (.con (.int 0)) (.cons (.con (.int 0)) (.cons (.op2 .add (.con (.int 97)) (.op2 .mul (.con (.int 5)) (.bi .len (.cons (.v 1) .nil)))) (.cons (.con (.int 0)) .nil))))))) .nil))
def g_law_some (i_law_draw : Nat) : Ss := (.cons (.ret (.ix (.v 1) (.call i_law_draw (.io 0 (.val (.bi .len (.cons (.v 1) .nil)) .nil))))) .nil)
def g_law_mixed (i_law_draw : Nat) : Ss := (.cons (.par (.cons (.nm 2) (.cons (.nm 3) .nil)) (.cons (.bi .lst (.cons (.v 1) .nil)) (.cons (.lst .nil) .nil))) (.cons (.whl (.cmp .gt (.bi .len (.cons (.v 2) .nil)) (.con (.int 0))) (.cons (.expr (.mu .append 3 (.cons (.mu .popAt 2 (.cons (.call i_law_draw (.io 0 (.val (.bi .len (.cons (.v 2) .nil)) .nil))) .nil)) .nil))) .nil)) (.cons (.ret (.v 3)) .nil)))
/-! the hand -/
def DrawOk (C : Ctx) (k : Nat) : Prop := ∀ (h : D) (many : Int), HandOk h → 0 < many → many < 1000000 → ∃ fig h', C.cal k [.io h, .sh (.int many)] = some (false, .int fig, [h']) ∧ 0 ≤ fig ∧ fig < many ∧ HandOk h'
theorem cut_63 (ns : List Int) : cutD (ns.map PyData.int) none (some 63) = (ns.take 63).map PyData.int := by
  simp only [cutD, List.length_map, Nat.sub_zero, List.drop_zero]
  rw [if_pos (by decide), List.map_take]
  rw [show (63 : Int).toNat = 63 from rfl]
  by_cases h : ns.length ≤ 63
  · rw [Nat.min_eq_right h, List.take_of_length_le (by simp), List.take_of_length_le (by simpa using h)]
  · rw [Nat.min_eq_left (by omega)]
theorem sl_scr (ns : List Int) : slEv (scrOf ns) .none (.int 63) = some (.fr (.list ((ns.take 63).map PyData.int))) := by
  show (some (RV.fr (.list (cutD (ns.map PyData.int) none (some 63)))) : Option RV) = _
  rw [cut_63]
theorem hand_ok {C : Ctx} {ns : List Int} (hl : ns.length ≤ 63) : ∃ h, callB C 3 g_law_hand [.sh (scrOf ns)] = some (true, h, []) ∧ HandOk h := by
  unfold callB g_law_hand
  rw [show startE 3 [Ar.sh (scrOf ns)] = [.sh (scrOf ns), .un, .un] from rfl]
  have hit : evI C (.seq (.sl (.v 0) .no (.con (.int 63)))) [.sh (scrOf ns), .un, .un] = some ((ns.take 63).map PyData.int, [.sh (scrOf ns), .un, .un]) := by
    simp only [q_v, q_con, q_glo, q_no, q_tup, q_lst, q_dnk, q_op2, q_neg, q_cmp, q_cmp2, q_and, q_or, q_not, q_ite, q_bi, q_lrng, q_mu, q_call, q_ix, q_sl, q_rev, q_lnil, q_lcons, q_rnil, q_rcons, q_fnil, q_fcons, q_anil, q_aval, q_aio, q_seq, q_rng1, q_rng2, q_zip, q_enm, q_T, q_sh, q_fr, q_pk, q_fsh, q_ffr, q_fpk, q_cnil, q_ccons, q_aanil, q_aash, q_aaio, q_gnil, q_gcons, q_pnm, q_pix, q_rsh, q_rfr, q_rpk, q_Nnil, q_Ncons, q_Pnil, q_Pcons, q_tsh, q_tfr, q_tpk, q_Sexpr, q_Sset, q_Spar, q_Sunp, q_Siff, q_Sret, q_SretN, q_Swipe, q_SSnil, q_SScons, q_at0, q_atS, q_wnil, q_wcons, q_bnm, q_btp, q_btl, q_snil, q_scons, q_comp, q_dcomp, q_onil, q_osh, q_oio, Option.bind_some, Option.map_some, Option.bind_none, Option.map_none, List.set_cons_zero, List.set_cons_succ, Tg.slots, muK, muF, if_true, Bool.false_eq_true, if_false, ix_0, ix_1, ix_2, ix_3, ix_4, ixt_0, ixt_1, sx_1, sx_2, sx_3, sx_4, eq_int, ne_int, lt_int, gt_int, le_int, ge_int, isin_ev, notin_ev, add_int, sub_int, pow_10_18, tr_bool, io_int, so_list, so_tup, len_list, len_tup, int_int, abs_int, tup_list, tup_tup, lst_list, lst_tup, apSlots, Bool.not_true, Bool.not_false, decide_true, decide_false, reduceIte, reduceCtorEq, Nat.reduceAdd, List.length_map, sl_scr]
  have hc := comp_map (C := C) (elt := .bi .abs (.cons (.bi .int (.cons (.v 2) .nil)) .nil)) (tg := .nm 2) (ifs := .nil) (g := fun n => .int (if n < 0 then -n else n)) hit (fun a _ => by simp only [q_v, q_con, q_glo, q_no, q_tup, q_lst, q_dnk, q_op2, q_neg, q_cmp, q_cmp2, q_and, q_or, q_not, q_ite, q_bi, q_lrng, q_mu, q_call, q_ix, q_sl, q_rev, q_lnil, q_lcons, q_rnil, q_rcons, q_fnil, q_fcons, q_anil, q_aval, q_aio, q_seq, q_rng1, q_rng2, q_zip, q_enm, q_T, q_sh, q_fr, q_pk, q_fsh, q_ffr, q_fpk, q_cnil, q_ccons, q_aanil, q_aash, q_aaio, q_gnil, q_gcons, q_pnm, q_pix, q_rsh, q_rfr, q_rpk, q_Nnil, q_Ncons, q_Pnil, q_Pcons, q_tsh, q_tfr, q_tpk, q_Sexpr, q_Sset, q_Spar, q_Sunp, q_Siff, q_Sret, q_SretN, q_Swipe, q_SSnil, q_SScons, q_at0, q_atS, q_wnil, q_wcons, q_bnm, q_btp, q_btl, q_snil, q_scons, q_comp, q_dcomp, q_onil, q_osh, q_oio, Option.bind_some, Option.map_some, Option.bind_none, Option.map_none, List.set_cons_zero, List.set_cons_succ, Tg.slots, muK, muF, if_true, Bool.false_eq_true, if_false, ix_0, ix_1, ix_2, ix_3, ix_4, ixt_0, ixt_1, sx_1, sx_2, sx_3, sx_4, eq_int, ne_int, lt_int, gt_int, le_int, ge_int, isin_ev, notin_ev, add_int, sub_int, pow_10_18, tr_bool, io_int, so_list, so_tup, len_list, len_tup, int_int, abs_int, tup_list, tup_tup, lst_list, lst_tup, apSlots, Bool.not_true, Bool.not_false, decide_true, decide_false, reduceIte, reduceCtorEq, Nat.reduceAdd, List.length_map])
  refine ⟨.list [.list (((ns.take 63).map (fun n => if n < 0 then -n else n)).map PyData.int), .int 0, .int 0, .int (97 + 5 * ((ns.take 63).length : Nat)), .int 0], ?_, _, _, _, _, _, rfl, by omega⟩
  have m1 : ∀ x : Int, op2Ev .mul (.int 5) (.int x) = some (.sh (.int (5 * x))) := fun x => mul_l (by decide)
  rw [List.map_map]
  simp only [q_v, q_con, q_glo, q_no, q_tup, q_lst, q_dnk, q_op2, q_neg, q_cmp, q_cmp2, q_and, q_or, q_not, q_ite, q_bi, q_lrng, q_mu, q_call, q_ix, q_sl, q_rev, q_lnil, q_lcons, q_rnil, q_rcons, q_fnil, q_fcons, q_anil, q_aval, q_aio, q_seq, q_rng1, q_rng2, q_zip, q_enm, q_T, q_sh, q_fr, q_pk, q_fsh, q_ffr, q_fpk, q_cnil, q_ccons, q_aanil, q_aash, q_aaio, q_gnil, q_gcons, q_pnm, q_pix, q_rsh, q_rfr, q_rpk, q_Nnil, q_Ncons, q_Pnil, q_Pcons, q_tsh, q_tfr, q_tpk, q_Sexpr, q_Sset, q_Spar, q_Sunp, q_Siff, q_Sret, q_SretN, q_Swipe, q_SSnil, q_SScons, q_at0, q_atS, q_wnil, q_wcons, q_bnm, q_btp, q_btl, q_snil, q_scons, q_comp, q_dcomp, q_onil, q_osh, q_oio, Option.bind_some, Option.map_some, Option.bind_none, Option.map_none, List.set_cons_zero, List.set_cons_succ, Tg.slots, muK, muF, if_true, Bool.false_eq_true, if_false, ix_0, ix_1, ix_2, ix_3, ix_4, ixt_0, ixt_1, sx_1, sx_2, sx_3, sx_4, eq_int, ne_int, lt_int, gt_int, le_int, ge_int, isin_ev, notin_ev, add_int, sub_int, pow_10_18, tr_bool, io_int, so_list, so_tup, len_list, len_tup, int_int, abs_int, tup_list, tup_tup, lst_list, lst_tup, apSlots, Bool.not_true, Bool.not_false, decide_true, decide_false, reduceIte, reduceCtorEq, Nat.reduceAdd, List.length_map, hc, m1]
  rfl
/-! one of some -/
def SomeOk (C : Ctx) (k : Nat) : Prop := ∀ (h : D) (xs : List D), HandOk h → 0 < xs.length → xs.length < 1000000 → ∃ d h', C.cal k [.io h, .sh (.list xs)] = some (false, d, [h']) ∧ d ∈ xs ∧ HandOk h'
theorem some_ok {C : Ctx} {k : Nat} (hd : DrawOk C k) {h : D} {xs : List D} (hh : HandOk h) (h1 : 0 < xs.length) (h2 : xs.length < 1000000) : ∃ d h', callB C 2 (g_law_some k) [.io h, .sh (.list xs)] = some (false, d, [h']) ∧ d ∈ xs ∧ HandOk h' := by
  obtain ⟨fig, h', e, p1, p2, p3⟩ := hd h xs.length hh (by omega) (by omega)
  obtain ⟨n, rfl⟩ : ∃ n : Nat, fig = n := ⟨fig.toNat, by omega⟩
  have hn : n < xs.length := by omega
  have ix : ixEv (.list xs) (.int (n : Int)) = some xs[n] := ix_list (by simp [hn])
  refine ⟨xs[n], h', ?_, List.getElem_mem hn, p3⟩
  unfold callB g_law_some
  rw [show startE 2 [Ar.io h, .sh (.list xs)] = [.ow (some 0) h, .sh (.list xs)] from rfl]
  simp only [q_v, q_con, q_glo, q_no, q_tup, q_lst, q_dnk, q_op2, q_neg, q_cmp, q_cmp2, q_and, q_or, q_not, q_ite, q_bi, q_lrng, q_mu, q_call, q_ix, q_sl, q_rev, q_lnil, q_lcons, q_rnil, q_rcons, q_fnil, q_fcons, q_anil, q_aval, q_aio, q_seq, q_rng1, q_rng2, q_zip, q_enm, q_T, q_sh, q_fr, q_pk, q_fsh, q_ffr, q_fpk, q_cnil, q_ccons, q_aanil, q_aash, q_aaio, q_gnil, q_gcons, q_pnm, q_pix, q_rsh, q_rfr, q_rpk, q_Nnil, q_Ncons, q_Pnil, q_Pcons, q_tsh, q_tfr, q_tpk, q_Sexpr, q_Sset, q_Spar, q_Sunp, q_Siff, q_Sret, q_SretN, q_Swipe, q_SSnil, q_SScons, q_at0, q_atS, q_wnil, q_wcons, q_bnm, q_btp, q_btl, q_snil, q_scons, q_comp, q_dcomp, q_onil, q_osh, q_oio, Option.bind_some, Option.map_some, Option.bind_none, Option.map_none, List.set_cons_zero, List.set_cons_succ, Tg.slots, muK, muF, if_true, Bool.false_eq_true, if_false, ix_0, ix_1, ix_2, ix_3, ix_4, ixt_0, ixt_1, sx_1, sx_2, sx_3, sx_4, eq_int, ne_int, lt_int, gt_int, le_int, ge_int, isin_ev, notin_ev, add_int, sub_int, pow_10_18, tr_bool, io_int, so_list, so_tup, len_list, len_tup, int_int, abs_int, tup_list, tup_tup, lst_list, lst_tup, apSlots, Bool.not_true, Bool.not_false, decide_true, decide_false, reduceIte, reduceCtorEq, Nat.reduceAdd, List.length_map, e, ix, List.nodup_cons, List.not_mem_nil, not_false_eq_true, List.nodup_nil, and_self]
/-! mixed -/
def MixOk (C : Ctx) (k : Nat) : Prop := ∀ (h : D) (xs : List D), HandOk h → xs.length < 1000 → ∃ ys h', C.cal k [.io h, .sh (.list xs)] = some (true, .list ys, [h']) ∧ ys.Perm xs ∧ HandOk h'
theorem pop_ev {xs : List D} {n : Nat} (h : n < xs.length) (h2 : n < 1000000) : muEv .popAt (.list xs) [.int (n : Int)] = some (xs[n], .list (xs.eraseIdx n)) := by
  simp only [muEv]
  rw [if_pos (by omega), place_nat h]
  simp only [Option.bind_some]
  rw [List.getElem?_eq_getElem h]
  rfl
theorem erase_perm {α : Type} {xs : List α} {n : Nat} (h : n < xs.length) : ([xs[n]] ++ xs.eraseIdx n).Perm xs := by
  rw [List.eraseIdx_eq_take_drop_succ]
  have e : xs = xs.take n ++ xs[n] :: xs.drop (n + 1) := by rw [← List.drop_eq_getElem_cons h, List.take_append_drop]
  refine List.Perm.trans ?_ (List.Perm.of_eq e.symm)
  exact (List.perm_middle (a := xs[n]) (l₁ := xs.take n) (l₂ := xs.drop (n + 1))).symm
theorem mixed_ok {C : Ctx} {i_law_draw : Nat} (hd : DrawOk C i_law_draw) (hf : 1000 ≤ C.fuel) {h : D} {xs : List D} (hh : HandOk h) (h1 : xs.length < 1000) : ∃ ys h', callB C 4 (g_law_mixed i_law_draw) [.io h, .sh (.list xs)] = some (true, .list ys, [h']) ∧ ys.Perm xs ∧ HandOk h' := by
  unfold callB g_law_mixed
  rw [show startE 4 [Ar.io h, .sh (.list xs)] = [.ow (some 0) h, .sh (.list xs), .un, .un] from rfl]
  let I : Nat → Env → Prop := fun m ρ => ∃ h' left found, ρ = [.ow (some 0) h', .sh (.list xs), .ow none (.list left), .ow none (.list found)] ∧ HandOk h' ∧ left.length = m ∧ (found ++ left).Perm xs
  have hw := whl_go (C := C) (c := (.cmp .gt (.bi .len (.cons (.v 2) .nil)) (.con (.int 0)))) (body := (.cons (.expr (.mu .append 3 (.cons (.mu .popAt 2 (.cons (.call i_law_draw (.io 0 (.val (.bi .len (.cons (.v 2) .nil)) .nil))) .nil)) .nil))) .nil)) (ρ := [.ow (some 0) h, .sh (.list xs), .ow none (.list xs), .ow none (.list [])]) (fun m ρ => I m ρ) xs.length (by omega) ⟨h, xs, [], rfl, hh, rfl, by simp⟩ (fun m ρ1 hI => ?_) (fun ρ1 hI => ?_)
  · obtain ⟨ρ2, e, h', left, found, rfl, p1, p2, p3⟩ := hw
    refine ⟨found, h', ?_, ?_, p1⟩
    · simp only [q_v, q_con, q_glo, q_no, q_tup, q_lst, q_dnk, q_op2, q_neg, q_cmp, q_cmp2, q_and, q_or, q_not, q_ite, q_bi, q_lrng, q_mu, q_call, q_ix, q_sl, q_rev, q_lnil, q_lcons, q_rnil, q_rcons, q_fnil, q_fcons, q_anil, q_aval, q_aio, q_seq, q_rng1, q_rng2, q_zip, q_enm, q_T, q_sh, q_fr, q_pk, q_fsh, q_ffr, q_fpk, q_cnil, q_ccons, q_aanil, q_aash, q_aaio, q_gnil, q_gcons, q_pnm, q_pix, q_rsh, q_rfr, q_rpk, q_Nnil, q_Ncons, q_Pnil, q_Pcons, q_tsh, q_tfr, q_tpk, q_Sexpr, q_Sset, q_Spar, q_Sunp, q_Siff, q_Sret, q_SretN, q_Swipe, q_SSnil, q_SScons, q_at0, q_atS, q_wnil, q_wcons, q_bnm, q_btp, q_btl, q_snil, q_scons, q_comp, q_dcomp, q_onil, q_osh, q_oio, Option.bind_some, Option.map_some, Option.bind_none, Option.map_none, List.set_cons_zero, List.set_cons_succ, Tg.slots, muK, muF, if_true, Bool.false_eq_true, if_false, ix_0, ix_1, ix_2, ix_3, ix_4, ixt_0, ixt_1, sx_1, sx_2, sx_3, sx_4, eq_int, ne_int, lt_int, gt_int, le_int, ge_int, isin_ev, notin_ev, add_int, sub_int, pow_10_18, tr_bool, io_int, so_list, so_tup, len_list, len_tup, int_int, abs_int, tup_list, tup_tup, lst_list, lst_tup, apSlots, Bool.not_true, Bool.not_false, decide_true, decide_false, reduceIte, reduceCtorEq, Nat.reduceAdd, List.length_map, e]
    · rw [List.length_eq_zero_iff.mp p2, List.append_nil] at p3
      exact p3
  · obtain ⟨h', left, found, rfl, p1, p2, p3⟩ := hI
    have hlen : left.length ≤ xs.length := by have := p3.length_eq; simp at this; omega
    obtain ⟨fig, h2, e, q1, q2, q3⟩ := hd h' left.length p1 (by omega) (by omega)
    obtain ⟨n, rfl⟩ : ∃ n : Nat, fig = n := ⟨fig.toNat, by omega⟩
    have hn : n < left.length := by omega
    have hfl : found.length < 16777216 := by have := p3.length_eq; simp at this; omega
    refine ⟨[.ow (some 0) h', .sh (.list xs), .ow none (.list left), .ow none (.list found)], [.ow (some 0) h2, .sh (.list xs), .ow none (.list (left.eraseIdx n)), .ow none (.list (found ++ [left[n]]))], ?_, ?_, h2, left.eraseIdx n, found ++ [left[n]], rfl, q3, ?_, ?_⟩
    · simp only [q_v, q_con, q_glo, q_no, q_tup, q_lst, q_dnk, q_op2, q_neg, q_cmp, q_cmp2, q_and, q_or, q_not, q_ite, q_bi, q_lrng, q_mu, q_call, q_ix, q_sl, q_rev, q_lnil, q_lcons, q_rnil, q_rcons, q_fnil, q_fcons, q_anil, q_aval, q_aio, q_seq, q_rng1, q_rng2, q_zip, q_enm, q_T, q_sh, q_fr, q_pk, q_fsh, q_ffr, q_fpk, q_cnil, q_ccons, q_aanil, q_aash, q_aaio, q_gnil, q_gcons, q_pnm, q_pix, q_rsh, q_rfr, q_rpk, q_Nnil, q_Ncons, q_Pnil, q_Pcons, q_tsh, q_tfr, q_tpk, q_Sexpr, q_Sset, q_Spar, q_Sunp, q_Siff, q_Sret, q_SretN, q_Swipe, q_SSnil, q_SScons, q_at0, q_atS, q_wnil, q_wcons, q_bnm, q_btp, q_btl, q_snil, q_scons, q_comp, q_dcomp, q_onil, q_osh, q_oio, Option.bind_some, Option.map_some, Option.bind_none, Option.map_none, List.set_cons_zero, List.set_cons_succ, Tg.slots, muK, muF, if_true, Bool.false_eq_true, if_false, ix_0, ix_1, ix_2, ix_3, ix_4, ixt_0, ixt_1, sx_1, sx_2, sx_3, sx_4, eq_int, ne_int, lt_int, gt_int, le_int, ge_int, isin_ev, notin_ev, add_int, sub_int, pow_10_18, tr_bool, io_int, so_list, so_tup, len_list, len_tup, int_int, abs_int, tup_list, tup_tup, lst_list, lst_tup, apSlots, Bool.not_true, Bool.not_false, decide_true, decide_false, reduceIte, reduceCtorEq, Nat.reduceAdd, List.length_map, decide_eq_true (show (0 : Int) < left.length by omega)]
    · simp only [q_v, q_con, q_glo, q_no, q_tup, q_lst, q_dnk, q_op2, q_neg, q_cmp, q_cmp2, q_and, q_or, q_not, q_ite, q_bi, q_lrng, q_mu, q_call, q_ix, q_sl, q_rev, q_lnil, q_lcons, q_rnil, q_rcons, q_fnil, q_fcons, q_anil, q_aval, q_aio, q_seq, q_rng1, q_rng2, q_zip, q_enm, q_T, q_sh, q_fr, q_pk, q_fsh, q_ffr, q_fpk, q_cnil, q_ccons, q_aanil, q_aash, q_aaio, q_gnil, q_gcons, q_pnm, q_pix, q_rsh, q_rfr, q_rpk, q_Nnil, q_Ncons, q_Pnil, q_Pcons, q_tsh, q_tfr, q_tpk, q_Sexpr, q_Sset, q_Spar, q_Sunp, q_Siff, q_Sret, q_SretN, q_Swipe, q_SSnil, q_SScons, q_at0, q_atS, q_wnil, q_wcons, q_bnm, q_btp, q_btl, q_snil, q_scons, q_comp, q_dcomp, q_onil, q_osh, q_oio, Option.bind_some, Option.map_some, Option.bind_none, Option.map_none, List.set_cons_zero, List.set_cons_succ, Tg.slots, muK, muF, if_true, Bool.false_eq_true, if_false, ix_0, ix_1, ix_2, ix_3, ix_4, ixt_0, ixt_1, sx_1, sx_2, sx_3, sx_4, eq_int, ne_int, lt_int, gt_int, le_int, ge_int, isin_ev, notin_ev, add_int, sub_int, pow_10_18, tr_bool, io_int, so_list, so_tup, len_list, len_tup, int_int, abs_int, tup_list, tup_tup, lst_list, lst_tup, apSlots, Bool.not_true, Bool.not_false, decide_true, decide_false, reduceIte, reduceCtorEq, Nat.reduceAdd, List.length_map, e, pop_ev hn (by omega), app_ev hfl, List.nodup_cons, List.not_mem_nil, not_false_eq_true, List.nodup_nil, and_self]
    · rw [List.length_eraseIdx_of_lt hn]; omega
    · refine List.Perm.trans ?_ p3
      rw [List.append_assoc]
      refine List.Perm.append_left _ ?_
      exact erase_perm hn
  · obtain ⟨h', left, found, rfl, p1, p2, p3⟩ := hI
    refine ⟨[.ow (some 0) h', .sh (.list xs), .ow none (.list left), .ow none (.list found)], ?_, h', left, found, rfl, p1, p2, p3⟩
    have : left = [] := List.length_eq_zero_iff.mp p2
    subst this
    simp only [q_v, q_con, q_glo, q_no, q_tup, q_lst, q_dnk, q_op2, q_neg, q_cmp, q_cmp2, q_and, q_or, q_not, q_ite, q_bi, q_lrng, q_mu, q_call, q_ix, q_sl, q_rev, q_lnil, q_lcons, q_rnil, q_rcons, q_fnil, q_fcons, q_anil, q_aval, q_aio, q_seq, q_rng1, q_rng2, q_zip, q_enm, q_T, q_sh, q_fr, q_pk, q_fsh, q_ffr, q_fpk, q_cnil, q_ccons, q_aanil, q_aash, q_aaio, q_gnil, q_gcons, q_pnm, q_pix, q_rsh, q_rfr, q_rpk, q_Nnil, q_Ncons, q_Pnil, q_Pcons, q_tsh, q_tfr, q_tpk, q_Sexpr, q_Sset, q_Spar, q_Sunp, q_Siff, q_Sret, q_SretN, q_Swipe, q_SSnil, q_SScons, q_at0, q_atS, q_wnil, q_wcons, q_bnm, q_btp, q_btl, q_snil, q_scons, q_comp, q_dcomp, q_onil, q_osh, q_oio, Option.bind_some, Option.map_some, Option.bind_none, Option.map_none, List.set_cons_zero, List.set_cons_succ, Tg.slots, muK, muF, if_true, Bool.false_eq_true, if_false, ix_0, ix_1, ix_2, ix_3, ix_4, ixt_0, ixt_1, sx_1, sx_2, sx_3, sx_4, eq_int, ne_int, lt_int, gt_int, le_int, ge_int, isin_ev, notin_ev, add_int, sub_int, pow_10_18, tr_bool, io_int, so_list, so_tup, len_list, len_tup, int_int, abs_int, tup_list, tup_tup, lst_list, lst_tup, apSlots, Bool.not_true, Bool.not_false, decide_true, decide_false, reduceIte, reduceCtorEq, Nat.reduceAdd, List.length_map, List.length_nil, Int.lt_irrefl, Int.natCast_zero]
end PI

set_option Elab.async false
set_option linter.all false
set_option maxRecDepth 100000
set_option maxHeartbeats 4000000
/-! QC: the closing of drawn arrows; drawn orders. -/
namespace PI
set_option autoImplicit false
open PySem PySem.W
def g_law_close : Ss := (.cons (.set (.nm 2) (.comp (.v 5) (.nm 5) (.seq (.v 1)) .nil)) (.cons (.for (.nm 3) (.rng1 (.v 0)) (.cons (.for (.nm 4) (.rng1 (.v 0)) (.cons (.iff (.cmp .isin (.tup (.cons (.v 4) (.cons (.v 3) .nil))) (.v 2)) (.cons (.set (.nm 6) (.comp (.v 7) (.nm 7) (.rng1 (.v 0)) (.cons (.cmp .isin (.tup (.cons (.v 3) (.cons (.v 7) .nil))) (.v 2)) .nil))) (.cons (.set (.nm 2) (.op2 .add (.v 2) (.comp (.tup (.cons (.v 4) (.cons (.v 7) .nil))) (.nm 7) (.seq (.v 6)) (.cons (.cmp .notin (.tup (.cons (.v 4) (.cons (.v 7) .nil))) (.v 2)) .nil)))) (.cons (.wipe [6]) .nil))) .nil) (.cons (.wipe [4, 6]) .nil))) (.cons (.wipe [3, 4, 6]) .nil))) (.cons (.ret (.bi .srt (.cons (.bi .dic (.cons (.comp (.tup (.cons (.v 5) (.cons (.con (.int 1)) .nil))) (.nm 5) (.seq (.v 2)) .nil) .nil)) .nil))) .nil)))
def g_law_order (i_law_draw i_law_mixed i_law_close : Nat) : Ss := (.cons (.set (.nm 2) (.op2 .add (.con (.int 1)) (.call i_law_draw (.io 0 (.val (.v 1) .nil))))) (.cons (.par (.cons (.nm 3) (.cons (.nm 4) (.cons (.nm 5) .nil))) (.cons (.call i_law_mixed (.io 0 (.val (.lrng (.rng1 (.v 2))) .nil))) (.cons (.lst .nil) (.cons (.op2 .add (.con (.int 1)) (.call i_law_draw (.io 0 (.val (.con (.int 4)) .nil)))) .nil)))) (.cons (.for (.tp [6, 7]) (.enm (.v 3)) (.cons (.set (.nm 4) (.op2 .add (.v 4) (.comp (.tup (.cons (.v 7) (.cons (.v 8) .nil))) (.nm 8) (.seq (.sl (.v 3) (.op2 .add (.v 6) (.con (.int 1))) .no)) (.cons (.cmp .lt (.call i_law_draw (.io 0 (.val (.con (.int 5)) .nil))) (.v 5)) .nil)))) (.cons (.wipe [6, 7]) .nil))) (.cons (.ret (.tup (.cons (.v 2) (.cons (.bi .tup (.cons (.call i_law_close (.val (.v 2) (.val (.v 4) .nil))) .nil)) .nil)))) .nil))))
abbrev PR := Int × Int
abbrev en (p : PR) : D := Datum.toD p
theorem en_eq (a b : Int) : en (a, b) = .tuple [.int a, .int b] := rfl
theorem in_en (p : PR) (f : List PR) : inEv (en p) (.list (f.map en)) = some (decide (p ∈ f)) := by rw [show inEv (en p) (.list (f.map en)) = _ from in_list (α := PR) (by decide) p f]; congr
theorem in_en2 (a b : Int) (f : List PR) : inEv (.tuple [.int a, .int b]) (.list (f.map en)) = some (decide ((a, b) ∈ f)) := in_en (a, b) f
theorem in_en3 (a b : Int) (f : List PR) : inEv (.tuple [.int a, .int b]) (.tuple (f.map en)) = some (decide ((a, b) ∈ f)) := by rw [show inEv (.tuple [.int a, .int b]) (.tuple (f.map en)) = _ from in_tup (α := PR) (by decide) (a, b) f]; congr
/-- a dict of new keys -/
theorem dput_new {α : Type} [DecidableEq α] [Datum α] {ks : List α} {k : α} {v w : D} (h : k ∉ ks) : dput (ks.map fun k => (Datum.toD k, v)) (Datum.toD k) w = (ks.map fun k => (Datum.toD k, v)) ++ [(Datum.toD k, w)] := by
  unfold dput
  rw [if_neg]
  rw [List.any_map]
  simp only [List.any_eq_true, Function.comp, not_exists, not_and]
  intro x hx
  rw [Datum.eqv]
  simp only [decide_eq_true_eq]
  exact fun e => h (e ▸ hx)
theorem dmerge_nodup {α : Type} [DecidableEq α] [Datum α] {v : D} : ∀ {ms ks : List α}, (ks ++ ms).Nodup → dmerge (ks.map fun k => (Datum.toD k, v)) (ms.map fun k => (Datum.toD k, v)) = (ks ++ ms).map fun k => (Datum.toD k, v)
  | [], ks, _ => by rw [List.append_nil]; rfl
  | m :: ms, ks, h => by
    have h1 : m ∉ ks := fun hm => by
      have := (List.nodup_append.mp h).2.2 m hm m List.mem_cons_self
      exact this rfl
    show dmerge (dput (ks.map fun k => (Datum.toD k, v)) (Datum.toD m) v) (ms.map fun k => (Datum.toD k, v)) = _
    rw [dput_new h1]
    have := dmerge_nodup (v := v) (ms := ms) (ks := ks ++ [m]) (by rw [List.append_assoc]; exact h)
    rw [List.map_append] at this
    rw [show [(Datum.toD m, v)] = [m].map (fun k => (Datum.toD k, v)) from rfl, this, List.append_assoc]
    rfl
theorem pairs_of {α : Type} (g w : α → D) : ∀ bs : List α, pairsOf (bs.map fun a => PyData.tuple [g a, w a]) = some (bs.map fun a => (g a, w a))
  | [] => rfl
  | b :: bs => by rw [List.map_cons, pairsOf, pairs_of g w bs]; rfl
theorem tup_kind (f : List PR) : oneKind (f.map en) = true := by
  unfold oneKind
  rw [Bool.or_eq_true]
  right
  refine List.all_eq_true.mpr fun d hd => ?_
  obtain ⟨p, _, rfl⟩ := List.mem_map.mp hd
  rfl
theorem dic_en {f : List PR} {v : D} (nd : f.Nodup) : biEv .dic [.list (f.map fun p => .tuple [en p, v])] = some (.fr (.dict (f.map fun p => (en p, v)))) := by
  simp only [biEv, pairs_of en (fun _ => v), Option.bind_some]
  rw [show ((f.map fun p => (en p, v)).map (·.1)) = f.map en by rw [List.map_map]; rfl, if_pos (tup_kind f)]
  have := dmerge_nodup (v := v) (ms := f) (ks := []) (by simpa using nd)
  rw [List.nil_append] at this
  exact congrArg (fun z => some (RV.fr (PyData.dict z))) this
theorem srt_dic {f : List PR} {v : D} : biEv .srt [.dict (f.map fun p => (en p, v))] = some (.fr (.list ((srtT f).map en))) := by
  simp only [biEv]
  rw [show ((f.map fun p => (en p, v)).map (·.1)) = f.map en by rw [List.map_map]; rfl, if_pos (tup_kind f), srt_enc (α := PR) (by decide)]
  rfl
/-- pairs within n points -/
def Wn (n : Nat) (p : PR) : Prop := (0 ≤ p.1 ∧ p.1 < n) ∧ (0 ≤ p.2 ∧ p.2 < n)
theorem pairs_few {n : Nat} {f : List PR} (nd : f.Nodup) (h : ∀ p ∈ f, Wn n p) : f.length ≤ n * n := by
  let g : List PR := (List.range n).flatMap fun (i : Nat) => (List.range n).map fun (j : Nat) => (((i : Nat) : Int), ((j : Nat) : Int))
  have hg : g.length = n * n := by
    simp only [g, List.length_flatMap, List.length_map, List.length_range, List.map_const', List.sum_replicate_nat]
  rw [← hg]
  refine List.Nodup.length_le_of_subset nd fun p hp => ?_
  obtain ⟨⟨h1, h2⟩, h3, h4⟩ := h p hp
  simp only [g, List.mem_flatMap, List.mem_range, List.mem_map]
  exact ⟨p.1.toNat, by omega, p.2.toNat, by omega, Prod.ext (by simp; omega) (by simp; omega)⟩
section
variable {n : Nat} {pos : Int → Int}
structure ClB (n : Nat) (pos : Int → Int) (f : List PR) : Prop where
  nd : f.Nodup
  wn : ∀ p ∈ f, Wn n p
  up : ∀ p ∈ f, pos p.1 < pos p.2
theorem ClB.few {f : List PR} (b : ClB n pos f) (hn : n ≤ 100) : f.length ≤ 10000 := Nat.le_trans (pairs_few b.nd b.wn) (Nat.mul_le_mul hn hn)
def newO (n : Nat) (m o : Int) (f : List PR) : List PR := ((((List.range n).map fun k : Nat => (k : Int)).filter fun k => decide ((m, k) ∈ f)).filter fun k => !decide ((o, k) ∈ f)).map fun k => (o, k)
theorem mem_newO {m o : Int} {f : List PR} {p : PR} : p ∈ newO n m o f ↔ p.1 = o ∧ (0 ≤ p.2 ∧ p.2 < n) ∧ (m, p.2) ∈ f ∧ (o, p.2) ∉ f := by
  unfold newO
  simp only [List.mem_map, List.mem_filter, List.mem_range, decide_eq_true_eq, Bool.not_eq_true', decide_eq_false_iff_not]
  constructor
  · rintro ⟨k, ⟨⟨⟨j, hj, rfl⟩, h1⟩, h2⟩, rfl⟩
    exact ⟨rfl, ⟨by omega, by simp; omega⟩, h1, h2⟩
  · rintro ⟨h1, ⟨h2, h3⟩, h4, h5⟩
    exact ⟨p.2, ⟨⟨⟨p.2.toNat, by omega, by omega⟩, h4⟩, h5⟩, Prod.ext h1.symm rfl⟩
theorem newO_nodup {m o : Int} {f : List PR} : (newO n m o f).Nodup := by
  unfold newO
  have p0 : List.Pairwise (· ≠ ·) (List.range n) := List.nodup_range
  have p1 : List.Pairwise (· ≠ ·) ((List.range n).map fun k : Nat => (k : Int)) := p0.map _ fun a b h e => h (by omega)
  have p2 : List.Pairwise (· ≠ ·) ((((List.range n).map fun k : Nat => (k : Int)).filter fun k => decide ((m, k) ∈ f)).filter fun k => !decide ((o, k) ∈ f)) := (p1.filter _).filter _
  exact p2.map _ fun a b h e => h (congrArg Prod.snd e)
theorem ClB.step {f : List PR} (b : ClB n pos f) {m o : Int} (h : (o, m) ∈ f) : ClB n pos (f ++ newO n m o f) := by
  refine ⟨List.nodup_append.mpr ⟨b.nd, newO_nodup, fun x hx y hy e => ?_⟩, fun p hp => ?_, fun p hp => ?_⟩
  · subst e
    obtain ⟨h1, _, _, h4⟩ := mem_newO.mp hy
    exact h4 (by rw [← h1]; exact hx)
  · rcases List.mem_append.mp hp with hp | hp
    · exact b.wn p hp
    · obtain ⟨h1, h2, h3, _⟩ := mem_newO.mp hp
      exact ⟨h1 ▸ (b.wn _ h).1, h2⟩
  · rcases List.mem_append.mp hp with hp | hp
    · exact b.up p hp
    · obtain ⟨h1, h2, h3, _⟩ := mem_newO.mp hp
      have u1 := b.up _ h
      have u2 := b.up _ h3
      rw [h1]
      simp only at u1 u2
      omega
/-- the inner loop, some way on -/
structure Inn (n : Nat) (pos : Int → Int) (m : Int) (i : Nat) (f0 f : List PR) : Prop where
  b : ClB n pos f
  ch : ∀ p, p ∈ f ↔ p ∈ f0 ∨ (p.1 < i ∧ (p.1, m) ∈ f0 ∧ (m, p.2) ∈ f0)
theorem Inn.next {m : Int} {i : Nat} {f0 f : List PR} (b0 : ClB n pos f0) (h : Inn n pos m i f0 f) : Inn n pos m (i + 1) f0 (if ((i : Int), m) ∈ f then f ++ newO n m i f else f) := by
  have mm : (m, m) ∉ f0 := fun z => by have := b0.up _ z; simp only at this; omega
  have e1 : (((i : Int), m) ∈ f) ↔ ((i : Int), m) ∈ f0 := by
    rw [h.ch]
    constructor
    · rintro (z | ⟨z, _⟩)
      · exact z
      · simp only at z; omega
    · exact .inl
  have e2 : ∀ k, ((m, k) ∈ f) ↔ (m, k) ∈ f0 := fun k => by
    rw [h.ch]
    constructor
    · rintro (z | ⟨_, z, _⟩)
      · exact z
      · exact absurd z mm
    · exact .inl
  split
  · rename_i hi
    refine ⟨h.b.step hi, fun p => ?_⟩
    rw [List.mem_append, mem_newO, h.ch p, e2]
    constructor
    · rintro ((z | ⟨z1, z2, z3⟩) | ⟨z1, z2, z3, z4⟩)
      · exact .inl z
      · exact .inr ⟨by omega, z2, z3⟩
      · exact .inr ⟨by omega, z1 ▸ e1.mp hi, z3⟩
    · rintro (z | ⟨z1, z2, z3⟩)
      · exact .inl (.inl z)
      · by_cases hp : p.1 < i
        · exact .inl (.inr ⟨hp, z2, z3⟩)
        · have : p.1 = i := by have := (b0.wn _ z2).1; simp only at this; omega
          by_cases hq : ((i : Int), p.2) ∈ f
          · left
            rw [← h.ch p]
            rw [show p = ((i : Int), p.2) from Prod.ext this rfl]
            exact hq
          · exact .inr ⟨this, (b0.wn _ z3).2, z3, hq⟩
  · rename_i hi
    refine ⟨h.b, fun p => ?_⟩
    rw [h.ch p]
    constructor
    · rintro (z | ⟨z1, z2, z3⟩)
      · exact .inl z
      · exact .inr ⟨by omega, z2, z3⟩
    · rintro (z | ⟨z1, z2, z3⟩)
      · exact .inl z
      · refine .inr ⟨?_, z2, z3⟩
        have : p.1 ≠ i := fun e => hi (e1.mpr (e ▸ z2))
        omega
/-- chains by way of the points below m are closed -/
structure Out (n : Nat) (pos : Int → Int) (arrows : List PR) (m : Nat) (f : List PR) : Prop where
  b : ClB n pos f
  sup : ∀ p ∈ arrows, p ∈ f
  tr : ∀ (a b : Int) (k : Nat), k < m → (a, (k : Int)) ∈ f → ((k : Int), b) ∈ f → (a, b) ∈ f
theorem Out.next {arrows f f' : List PR} {m : Nat} (h : Out n pos arrows m f) (h2 : Inn n pos m n f f') : Out n pos arrows (m + 1) f' := by
  have ch : ∀ p, p ∈ f' ↔ p ∈ f ∨ ((p.1, (m : Int)) ∈ f ∧ ((m : Int), p.2) ∈ f) := fun p => by
    rw [h2.ch]
    constructor
    · rintro (z | ⟨_, z⟩)
      · exact .inl z
      · exact .inr z
    · rintro (z | z)
      · exact .inl z
      · exact .inr ⟨(h.b.wn _ z.1).1.2, z⟩
  have mm : ((m : Int), (m : Int)) ∉ f := fun z => by have := h.b.up _ z; simp only at this; omega
  refine ⟨h2.b, fun p hp => (ch p).mpr (.inl (h.sup p hp)), fun a b k hk h3 h4 => ?_⟩
  rw [ch] at h3 h4 ⊢
  simp only at h3 h4 ⊢
  by_cases hkm : k = m
  · subst hkm
    have g3 : (a, (k : Int)) ∈ f := h3.elim id fun z => absurd z.2 mm
    have g4 : ((k : Int), b) ∈ f := h4.elim id fun z => absurd z.1 mm
    exact .inr ⟨g3, g4⟩
  · have hk' : k < m := by omega
    rcases h3 with h3 | ⟨h3, h3'⟩
    · rcases h4 with h4 | ⟨h4, h4'⟩
      · exact .inl (h.tr a b k hk' h3 h4)
      · exact .inr ⟨h.tr a m k hk' h3 h4, h4'⟩
    · rcases h4 with h4 | ⟨h4, h4'⟩
      · exact .inr ⟨h3, h.tr m b k hk' h3' h4⟩
      · exact .inr ⟨h3, h4'⟩
end
theorem rng_int {n : Nat} : (List.range (Int.toNat (n : Int))).map (fun k => (PyData.int (k : Nat))) = (List.range n).map fun k => (PyData.int (k : Nat)) := by rw [Int.toNat_natCast]
def CloOk (C : Ctx) (k : Nat) : Prop := ∀ (n : Nat) (pos : Int → Int) (arrows : List PR), n ≤ 100 → ClB n pos arrows → ∃ f, C.cal k [.sh (.int n), .sh (.list (arrows.map en))] = some (true, .list ((srtT f).map en), []) ∧ Out n pos arrows n f
theorem close_ok {C : Ctx} {n : Nat} {pos : Int → Int} {arrows : List PR} (hn : n ≤ 100) (hb : ClB n pos arrows) : ∃ f, callB C 8 g_law_close [.sh (.int n), .sh (.list (arrows.map en))] = some (true, .list ((srtT f).map en), []) ∧ Out n pos arrows n f := by
  unfold callB g_law_close
  rw [show startE 8 [Ar.sh (.int n), .sh (.list (arrows.map en))] = [.sh (.int n), .sh (.list (arrows.map en)), .un, .un, .un, .un, .un, .un] from rfl]
  have c1 := comp_map (C := C) (elt := .v 5) (tg := .nm 5) (it := .seq (.v 1)) (ifs := .nil) (ρ := [.sh (.int n), .sh (.list (arrows.map en)), .un, .un, .un, .un, .un, .un]) (ρ1 := [.sh (.int n), .sh (.list (arrows.map en)), .un, .un, .un, .un, .un, .un]) (as := arrows) (T := en) (g := en) (by simp only [q_v, q_con, q_glo, q_no, q_tup, q_lst, q_dnk, q_op2, q_neg, q_cmp, q_cmp2, q_and, q_or, q_not, q_ite, q_bi, q_lrng, q_mu, q_call, q_ix, q_sl, q_rev, q_lnil, q_lcons, q_rnil, q_rcons, q_fnil, q_fcons, q_anil, q_aval, q_aio, q_seq, q_rng1, q_rng2, q_zip, q_enm, q_T, q_sh, q_fr, q_pk, q_fsh, q_ffr, q_fpk, q_cnil, q_ccons, q_aanil, q_aash, q_aaio, q_gnil, q_gcons, q_pnm, q_pix, q_rsh, q_rfr, q_rpk, q_Nnil, q_Ncons, q_Pnil, q_Pcons, q_tsh, q_tfr, q_tpk, q_Sexpr, q_Sset, q_Spar, q_Sunp, q_Siff, q_Sret, q_SretN, q_Swipe, q_SSnil, q_SScons, q_at0, q_atS, q_wnil, q_wcons, q_bnm, q_btp, q_btl, q_snil, q_scons, q_comp, q_dcomp, q_onil, q_osh, q_oio, Option.bind_some, Option.map_some, Option.bind_none, Option.map_none, List.set_cons_zero, List.set_cons_succ, Tg.slots, muK, muF, if_true, Bool.false_eq_true, if_false, ix_0, ix_1, ix_2, ix_3, ix_4, ixt_0, ixt_1, sx_1, sx_2, sx_3, sx_4, eq_int, ne_int, lt_int, gt_int, le_int, ge_int, isin_ev, notin_ev, add_int, sub_int, pow_10_18, tr_bool, io_int, so_list, so_tup, len_list, len_tup, int_int, abs_int, tup_list, tup_tup, lst_list, lst_tup, apSlots, Bool.not_true, Bool.not_false, decide_true, decide_false, reduceIte, reduceCtorEq, Nat.reduceAdd, List.length_map]) (fun a _ => by simp only [q_v, q_con, q_glo, q_no, q_tup, q_lst, q_dnk, q_op2, q_neg, q_cmp, q_cmp2, q_and, q_or, q_not, q_ite, q_bi, q_lrng, q_mu, q_call, q_ix, q_sl, q_rev, q_lnil, q_lcons, q_rnil, q_rcons, q_fnil, q_fcons, q_anil, q_aval, q_aio, q_seq, q_rng1, q_rng2, q_zip, q_enm, q_T, q_sh, q_fr, q_pk, q_fsh, q_ffr, q_fpk, q_cnil, q_ccons, q_aanil, q_aash, q_aaio, q_gnil, q_gcons, q_pnm, q_pix, q_rsh, q_rfr, q_rpk, q_Nnil, q_Ncons, q_Pnil, q_Pcons, q_tsh, q_tfr, q_tpk, q_Sexpr, q_Sset, q_Spar, q_Sunp, q_Siff, q_Sret, q_SretN, q_Swipe, q_SSnil, q_SScons, q_at0, q_atS, q_wnil, q_wcons, q_bnm, q_btp, q_btl, q_snil, q_scons, q_comp, q_dcomp, q_onil, q_osh, q_oio, Option.bind_some, Option.map_some, Option.bind_none, Option.map_none, List.set_cons_zero, List.set_cons_succ, Tg.slots, muK, muF, if_true, Bool.false_eq_true, if_false, ix_0, ix_1, ix_2, ix_3, ix_4, ixt_0, ixt_1, sx_1, sx_2, sx_3, sx_4, eq_int, ne_int, lt_int, gt_int, le_int, ge_int, isin_ev, notin_ev, add_int, sub_int, pow_10_18, tr_bool, io_int, so_list, so_tup, len_list, len_tup, int_int, abs_int, tup_list, tup_tup, lst_list, lst_tup, apSlots, Bool.not_true, Bool.not_false, decide_true, decide_false, reduceIte, reduceCtorEq, Nat.reduceAdd, List.length_map])
  have hr : evI C (.rng1 (.v 0)) [.sh (.int n), .sh (.list (arrows.map en)), .ow none (.list (arrows.map en)), .un, .un, .un, .un, .un] = some ((List.range n).map fun k => (PyData.int (k : Nat)), [.sh (.int n), .sh (.list (arrows.map en)), .ow none (.list (arrows.map en)), .un, .un, .un, .un, .un]) := by
    simp only [q_v, q_con, q_glo, q_no, q_tup, q_lst, q_dnk, q_op2, q_neg, q_cmp, q_cmp2, q_and, q_or, q_not, q_ite, q_bi, q_lrng, q_mu, q_call, q_ix, q_sl, q_rev, q_lnil, q_lcons, q_rnil, q_rcons, q_fnil, q_fcons, q_anil, q_aval, q_aio, q_seq, q_rng1, q_rng2, q_zip, q_enm, q_T, q_sh, q_fr, q_pk, q_fsh, q_ffr, q_fpk, q_cnil, q_ccons, q_aanil, q_aash, q_aaio, q_gnil, q_gcons, q_pnm, q_pix, q_rsh, q_rfr, q_rpk, q_Nnil, q_Ncons, q_Pnil, q_Pcons, q_tsh, q_tfr, q_tpk, q_Sexpr, q_Sset, q_Spar, q_Sunp, q_Siff, q_Sret, q_SretN, q_Swipe, q_SSnil, q_SScons, q_at0, q_atS, q_wnil, q_wcons, q_bnm, q_btp, q_btl, q_snil, q_scons, q_comp, q_dcomp, q_onil, q_osh, q_oio, Option.bind_some, Option.map_some, Option.bind_none, Option.map_none, List.set_cons_zero, List.set_cons_succ, Tg.slots, muK, muF, if_true, Bool.false_eq_true, if_false, ix_0, ix_1, ix_2, ix_3, ix_4, ixt_0, ixt_1, sx_1, sx_2, sx_3, sx_4, eq_int, ne_int, lt_int, gt_int, le_int, ge_int, isin_ev, notin_ev, add_int, sub_int, pow_10_18, tr_bool, io_int, so_list, so_tup, len_list, len_tup, int_int, abs_int, tup_list, tup_tup, lst_list, lst_tup, apSlots, Bool.not_true, Bool.not_false, decide_true, decide_false, reduceIte, reduceCtorEq, Nat.reduceAdd, List.length_map]
    rw [if_pos (by omega), rng_int]
  have w2 := for_go (C := C) (tg := .nm 3) (body := (.cons (.for (.nm 4) (.rng1 (.v 0)) (.cons (.iff (.cmp .isin (.tup (.cons (.v 4) (.cons (.v 3) .nil))) (.v 2)) (.cons (.set (.nm 6) (.comp (.v 7) (.nm 7) (.rng1 (.v 0)) (.cons (.cmp .isin (.tup (.cons (.v 3) (.cons (.v 7) .nil))) (.v 2)) .nil))) (.cons (.set (.nm 2) (.op2 .add (.v 2) (.comp (.tup (.cons (.v 4) (.cons (.v 7) .nil))) (.nm 7) (.seq (.v 6)) (.cons (.cmp .notin (.tup (.cons (.v 4) (.cons (.v 7) .nil))) (.v 2)) .nil)))) (.cons (.wipe [6]) .nil))) .nil) (.cons (.wipe [4, 6]) .nil))) (.cons (.wipe [3, 4, 6]) .nil))) hr (fun i ρ => ∃ f, ρ = [.sh (.int n), .sh (.list (arrows.map en)), .ow none (.list (f.map en)), .un, .un, .un, .un, .un] ∧ Out n pos arrows i f) ⟨arrows, rfl, hb, fun p h => h, fun a b k hk => by omega⟩ (fun m mv ρ2 hm hI => ?_)
  · obtain ⟨ρ2, e2, f, rfl, hf⟩ := w2
    refine ⟨f, ?_, by simpa using hf⟩
    have c2 := comp_map (C := C) (elt := .tup (.cons (.v 5) (.cons (.con (.int 1)) .nil))) (tg := .nm 5) (it := .seq (.v 2)) (ifs := .nil) (ρ := [.sh (.int n), .sh (.list (arrows.map en)), .ow none (.list (f.map en)), .un, .un, .un, .un, .un]) (ρ1 := [.sh (.int n), .sh (.list (arrows.map en)), .sh (.list (f.map en)), .un, .un, .un, .un, .un]) (as := f) (T := en) (g := fun p => .tuple [en p, .int 1]) (by simp only [q_v, q_con, q_glo, q_no, q_tup, q_lst, q_dnk, q_op2, q_neg, q_cmp, q_cmp2, q_and, q_or, q_not, q_ite, q_bi, q_lrng, q_mu, q_call, q_ix, q_sl, q_rev, q_lnil, q_lcons, q_rnil, q_rcons, q_fnil, q_fcons, q_anil, q_aval, q_aio, q_seq, q_rng1, q_rng2, q_zip, q_enm, q_T, q_sh, q_fr, q_pk, q_fsh, q_ffr, q_fpk, q_cnil, q_ccons, q_aanil, q_aash, q_aaio, q_gnil, q_gcons, q_pnm, q_pix, q_rsh, q_rfr, q_rpk, q_Nnil, q_Ncons, q_Pnil, q_Pcons, q_tsh, q_tfr, q_tpk, q_Sexpr, q_Sset, q_Spar, q_Sunp, q_Siff, q_Sret, q_SretN, q_Swipe, q_SSnil, q_SScons, q_at0, q_atS, q_wnil, q_wcons, q_bnm, q_btp, q_btl, q_snil, q_scons, q_comp, q_dcomp, q_onil, q_osh, q_oio, Option.bind_some, Option.map_some, Option.bind_none, Option.map_none, List.set_cons_zero, List.set_cons_succ, Tg.slots, muK, muF, if_true, Bool.false_eq_true, if_false, ix_0, ix_1, ix_2, ix_3, ix_4, ixt_0, ixt_1, sx_1, sx_2, sx_3, sx_4, eq_int, ne_int, lt_int, gt_int, le_int, ge_int, isin_ev, notin_ev, add_int, sub_int, pow_10_18, tr_bool, io_int, so_list, so_tup, len_list, len_tup, int_int, abs_int, tup_list, tup_tup, lst_list, lst_tup, apSlots, Bool.not_true, Bool.not_false, decide_true, decide_false, reduceIte, reduceCtorEq, Nat.reduceAdd, List.length_map]) (fun a _ => by simp only [q_v, q_con, q_glo, q_no, q_tup, q_lst, q_dnk, q_op2, q_neg, q_cmp, q_cmp2, q_and, q_or, q_not, q_ite, q_bi, q_lrng, q_mu, q_call, q_ix, q_sl, q_rev, q_lnil, q_lcons, q_rnil, q_rcons, q_fnil, q_fcons, q_anil, q_aval, q_aio, q_seq, q_rng1, q_rng2, q_zip, q_enm, q_T, q_sh, q_fr, q_pk, q_fsh, q_ffr, q_fpk, q_cnil, q_ccons, q_aanil, q_aash, q_aaio, q_gnil, q_gcons, q_pnm, q_pix, q_rsh, q_rfr, q_rpk, q_Nnil, q_Ncons, q_Pnil, q_Pcons, q_tsh, q_tfr, q_tpk, q_Sexpr, q_Sset, q_Spar, q_Sunp, q_Siff, q_Sret, q_SretN, q_Swipe, q_SSnil, q_SScons, q_at0, q_atS, q_wnil, q_wcons, q_bnm, q_btp, q_btl, q_snil, q_scons, q_comp, q_dcomp, q_onil, q_osh, q_oio, Option.bind_some, Option.map_some, Option.bind_none, Option.map_none, List.set_cons_zero, List.set_cons_succ, Tg.slots, muK, muF, if_true, Bool.false_eq_true, if_false, ix_0, ix_1, ix_2, ix_3, ix_4, ixt_0, ixt_1, sx_1, sx_2, sx_3, sx_4, eq_int, ne_int, lt_int, gt_int, le_int, ge_int, isin_ev, notin_ev, add_int, sub_int, pow_10_18, tr_bool, io_int, so_list, so_tup, len_list, len_tup, int_int, abs_int, tup_list, tup_tup, lst_list, lst_tup, apSlots, Bool.not_true, Bool.not_false, decide_true, decide_false, reduceIte, reduceCtorEq, Nat.reduceAdd, List.length_map])
    simp only [q_v, q_con, q_glo, q_no, q_tup, q_lst, q_dnk, q_op2, q_neg, q_cmp, q_cmp2, q_and, q_or, q_not, q_ite, q_bi, q_lrng, q_mu, q_call, q_ix, q_sl, q_rev, q_lnil, q_lcons, q_rnil, q_rcons, q_fnil, q_fcons, q_anil, q_aval, q_aio, q_seq, q_rng1, q_rng2, q_zip, q_enm, q_T, q_sh, q_fr, q_pk, q_fsh, q_ffr, q_fpk, q_cnil, q_ccons, q_aanil, q_aash, q_aaio, q_gnil, q_gcons, q_pnm, q_pix, q_rsh, q_rfr, q_rpk, q_Nnil, q_Ncons, q_Pnil, q_Pcons, q_tsh, q_tfr, q_tpk, q_Sexpr, q_Sset, q_Spar, q_Sunp, q_Siff, q_Sret, q_SretN, q_Swipe, q_SSnil, q_SScons, q_at0, q_atS, q_wnil, q_wcons, q_bnm, q_btp, q_btl, q_snil, q_scons, q_comp, q_dcomp, q_onil, q_osh, q_oio, Option.bind_some, Option.map_some, Option.bind_none, Option.map_none, List.set_cons_zero, List.set_cons_succ, Tg.slots, muK, muF, if_true, Bool.false_eq_true, if_false, ix_0, ix_1, ix_2, ix_3, ix_4, ixt_0, ixt_1, sx_1, sx_2, sx_3, sx_4, eq_int, ne_int, lt_int, gt_int, le_int, ge_int, isin_ev, notin_ev, add_int, sub_int, pow_10_18, tr_bool, io_int, so_list, so_tup, len_list, len_tup, int_int, abs_int, tup_list, tup_tup, lst_list, lst_tup, apSlots, Bool.not_true, Bool.not_false, decide_true, decide_false, reduceIte, reduceCtorEq, Nat.reduceAdd, List.length_map, c1, e2, c2, dic_en hf.b.nd, srt_dic]
  · obtain ⟨f, rfl, hf⟩ := hI
    have hmv : mv = m := by
      have := (List.getElem?_eq_some_iff.mp hm).2
      simpa using this.symm
    have hmn : m < n := by
      have := (List.getElem?_eq_some_iff.mp hm).1
      simpa using this
    subst hmv
    have hr2 : evI C (.rng1 (.v 0)) [.sh (.int n), .sh (.list (arrows.map en)), .ow none (.list (f.map en)), .sh (.int (mv : Nat)), .un, .un, .un, .un] = some ((List.range n).map fun k => (PyData.int (k : Nat)), [.sh (.int n), .sh (.list (arrows.map en)), .ow none (.list (f.map en)), .sh (.int (mv : Nat)), .un, .un, .un, .un]) := by
      simp only [q_v, q_con, q_glo, q_no, q_tup, q_lst, q_dnk, q_op2, q_neg, q_cmp, q_cmp2, q_and, q_or, q_not, q_ite, q_bi, q_lrng, q_mu, q_call, q_ix, q_sl, q_rev, q_lnil, q_lcons, q_rnil, q_rcons, q_fnil, q_fcons, q_anil, q_aval, q_aio, q_seq, q_rng1, q_rng2, q_zip, q_enm, q_T, q_sh, q_fr, q_pk, q_fsh, q_ffr, q_fpk, q_cnil, q_ccons, q_aanil, q_aash, q_aaio, q_gnil, q_gcons, q_pnm, q_pix, q_rsh, q_rfr, q_rpk, q_Nnil, q_Ncons, q_Pnil, q_Pcons, q_tsh, q_tfr, q_tpk, q_Sexpr, q_Sset, q_Spar, q_Sunp, q_Siff, q_Sret, q_SretN, q_Swipe, q_SSnil, q_SScons, q_at0, q_atS, q_wnil, q_wcons, q_bnm, q_btp, q_btl, q_snil, q_scons, q_comp, q_dcomp, q_onil, q_osh, q_oio, Option.bind_some, Option.map_some, Option.bind_none, Option.map_none, List.set_cons_zero, List.set_cons_succ, Tg.slots, muK, muF, if_true, Bool.false_eq_true, if_false, ix_0, ix_1, ix_2, ix_3, ix_4, ixt_0, ixt_1, sx_1, sx_2, sx_3, sx_4, eq_int, ne_int, lt_int, gt_int, le_int, ge_int, isin_ev, notin_ev, add_int, sub_int, pow_10_18, tr_bool, io_int, so_list, so_tup, len_list, len_tup, int_int, abs_int, tup_list, tup_tup, lst_list, lst_tup, apSlots, Bool.not_true, Bool.not_false, decide_true, decide_false, reduceIte, reduceCtorEq, Nat.reduceAdd, List.length_map]
      rw [if_pos (by omega), rng_int]
    have w3 := for_go (C := C) (tg := .nm 4) (body := (.cons (.iff (.cmp .isin (.tup (.cons (.v 4) (.cons (.v 3) .nil))) (.v 2)) (.cons (.set (.nm 6) (.comp (.v 7) (.nm 7) (.rng1 (.v 0)) (.cons (.cmp .isin (.tup (.cons (.v 3) (.cons (.v 7) .nil))) (.v 2)) .nil))) (.cons (.set (.nm 2) (.op2 .add (.v 2) (.comp (.tup (.cons (.v 4) (.cons (.v 7) .nil))) (.nm 7) (.seq (.v 6)) (.cons (.cmp .notin (.tup (.cons (.v 4) (.cons (.v 7) .nil))) (.v 2)) .nil)))) (.cons (.wipe [6]) .nil))) .nil) (.cons (.wipe [4, 6]) .nil))) hr2 (fun i ρ => ∃ f', ρ = [.sh (.int n), .sh (.list (arrows.map en)), .ow none (.list (f'.map en)), .sh (.int (mv : Nat)), .un, .un, .un, .un] ∧ Inn n pos (mv : Nat) i f f') ⟨f, rfl, hf.b, fun p => ⟨.inl, fun z => z.elim id fun z => by
        have := (hf.b.wn _ z.2.1).1
        simp only at this
        omega⟩⟩ (fun o ov ρ2 ho hI => ?_)
    · obtain ⟨ρ3, e3, f', rfl, hf'⟩ := w3
      refine ⟨_, ?_, f', rfl, hf.next (by simpa using hf')⟩
      simp only [q_v, q_con, q_glo, q_no, q_tup, q_lst, q_dnk, q_op2, q_neg, q_cmp, q_cmp2, q_and, q_or, q_not, q_ite, q_bi, q_lrng, q_mu, q_call, q_ix, q_sl, q_rev, q_lnil, q_lcons, q_rnil, q_rcons, q_fnil, q_fcons, q_anil, q_aval, q_aio, q_seq, q_rng1, q_rng2, q_zip, q_enm, q_T, q_sh, q_fr, q_pk, q_fsh, q_ffr, q_fpk, q_cnil, q_ccons, q_aanil, q_aash, q_aaio, q_gnil, q_gcons, q_pnm, q_pix, q_rsh, q_rfr, q_rpk, q_Nnil, q_Ncons, q_Pnil, q_Pcons, q_tsh, q_tfr, q_tpk, q_Sexpr, q_Sset, q_Spar, q_Sunp, q_Siff, q_Sret, q_SretN, q_Swipe, q_SSnil, q_SScons, q_at0, q_atS, q_wnil, q_wcons, q_bnm, q_btp, q_btl, q_snil, q_scons, q_comp, q_dcomp, q_onil, q_osh, q_oio, Option.bind_some, Option.map_some, Option.bind_none, Option.map_none, List.set_cons_zero, List.set_cons_succ, Tg.slots, muK, muF, if_true, Bool.false_eq_true, if_false, ix_0, ix_1, ix_2, ix_3, ix_4, ixt_0, ixt_1, sx_1, sx_2, sx_3, sx_4, eq_int, ne_int, lt_int, gt_int, le_int, ge_int, isin_ev, notin_ev, add_int, sub_int, pow_10_18, tr_bool, io_int, so_list, so_tup, len_list, len_tup, int_int, abs_int, tup_list, tup_tup, lst_list, lst_tup, apSlots, Bool.not_true, Bool.not_false, decide_true, decide_false, reduceIte, reduceCtorEq, Nat.reduceAdd, List.length_map, e3]
    · obtain ⟨g, rfl, hg⟩ := hI
      have hov : ov = o := by
        have := (List.getElem?_eq_some_iff.mp ho).2
        simpa using this.symm
      have hon : o < n := by
        have := (List.getElem?_eq_some_iff.mp ho).1
        simpa using this
      subst hov
      by_cases hin : ((ov : Int), (mv : Int)) ∈ g
      · have hr3 : evI C (.rng1 (.v 0)) [.sh (.int n), .sh (.list (arrows.map en)), .ow none (.list (g.map en)), .sh (.int (mv : Nat)), .sh (.int (ov : Nat)), .un, .un, .un] = some (((List.range n).map fun k : Nat => (k : Int)).map PyData.int, [.sh (.int n), .sh (.list (arrows.map en)), .ow none (.list (g.map en)), .sh (.int (mv : Nat)), .sh (.int (ov : Nat)), .un, .un, .un]) := by
          simp only [q_v, q_con, q_glo, q_no, q_tup, q_lst, q_dnk, q_op2, q_neg, q_cmp, q_cmp2, q_and, q_or, q_not, q_ite, q_bi, q_lrng, q_mu, q_call, q_ix, q_sl, q_rev, q_lnil, q_lcons, q_rnil, q_rcons, q_fnil, q_fcons, q_anil, q_aval, q_aio, q_seq, q_rng1, q_rng2, q_zip, q_enm, q_T, q_sh, q_fr, q_pk, q_fsh, q_ffr, q_fpk, q_cnil, q_ccons, q_aanil, q_aash, q_aaio, q_gnil, q_gcons, q_pnm, q_pix, q_rsh, q_rfr, q_rpk, q_Nnil, q_Ncons, q_Pnil, q_Pcons, q_tsh, q_tfr, q_tpk, q_Sexpr, q_Sset, q_Spar, q_Sunp, q_Siff, q_Sret, q_SretN, q_Swipe, q_SSnil, q_SScons, q_at0, q_atS, q_wnil, q_wcons, q_bnm, q_btp, q_btl, q_snil, q_scons, q_comp, q_dcomp, q_onil, q_osh, q_oio, Option.bind_some, Option.map_some, Option.bind_none, Option.map_none, List.set_cons_zero, List.set_cons_succ, Tg.slots, muK, muF, if_true, Bool.false_eq_true, if_false, ix_0, ix_1, ix_2, ix_3, ix_4, ixt_0, ixt_1, sx_1, sx_2, sx_3, sx_4, eq_int, ne_int, lt_int, gt_int, le_int, ge_int, isin_ev, notin_ev, add_int, sub_int, pow_10_18, tr_bool, io_int, so_list, so_tup, len_list, len_tup, int_int, abs_int, tup_list, tup_tup, lst_list, lst_tup, apSlots, Bool.not_true, Bool.not_false, decide_true, decide_false, reduceIte, reduceCtorEq, Nat.reduceAdd, List.length_map]
          rw [if_pos (by omega), rng_int, List.map_map]
          rfl
        have c3 := comp_filter (C := C) (elt := (.v 7)) (tg := .nm 7) (ifs := (.cons (.cmp .isin (.tup (.cons (.v 3) (.cons (.v 7) .nil))) (.v 2)) .nil)) (g := PyData.int) (p := fun k => decide (((mv : Int), k) ∈ g)) hr3 (fun k _ => by
          by_cases hk : ((mv : Int), k) ∈ g
          · simp only [q_v, q_con, q_glo, q_no, q_tup, q_lst, q_dnk, q_op2, q_neg, q_cmp, q_cmp2, q_and, q_or, q_not, q_ite, q_bi, q_lrng, q_mu, q_call, q_ix, q_sl, q_rev, q_lnil, q_lcons, q_rnil, q_rcons, q_fnil, q_fcons, q_anil, q_aval, q_aio, q_seq, q_rng1, q_rng2, q_zip, q_enm, q_T, q_sh, q_fr, q_pk, q_fsh, q_ffr, q_fpk, q_cnil, q_ccons, q_aanil, q_aash, q_aaio, q_gnil, q_gcons, q_pnm, q_pix, q_rsh, q_rfr, q_rpk, q_Nnil, q_Ncons, q_Pnil, q_Pcons, q_tsh, q_tfr, q_tpk, q_Sexpr, q_Sset, q_Spar, q_Sunp, q_Siff, q_Sret, q_SretN, q_Swipe, q_SSnil, q_SScons, q_at0, q_atS, q_wnil, q_wcons, q_bnm, q_btp, q_btl, q_snil, q_scons, q_comp, q_dcomp, q_onil, q_osh, q_oio, Option.bind_some, Option.map_some, Option.bind_none, Option.map_none, List.set_cons_zero, List.set_cons_succ, Tg.slots, muK, muF, if_true, Bool.false_eq_true, if_false, ix_0, ix_1, ix_2, ix_3, ix_4, ixt_0, ixt_1, sx_1, sx_2, sx_3, sx_4, eq_int, ne_int, lt_int, gt_int, le_int, ge_int, isin_ev, notin_ev, add_int, sub_int, pow_10_18, tr_bool, io_int, so_list, so_tup, len_list, len_tup, int_int, abs_int, tup_list, tup_tup, lst_list, lst_tup, apSlots, Bool.not_true, Bool.not_false, decide_true, decide_false, reduceIte, reduceCtorEq, Nat.reduceAdd, List.length_map, in_en2, decide_eq_true hk]
          · simp only [q_v, q_con, q_glo, q_no, q_tup, q_lst, q_dnk, q_op2, q_neg, q_cmp, q_cmp2, q_and, q_or, q_not, q_ite, q_bi, q_lrng, q_mu, q_call, q_ix, q_sl, q_rev, q_lnil, q_lcons, q_rnil, q_rcons, q_fnil, q_fcons, q_anil, q_aval, q_aio, q_seq, q_rng1, q_rng2, q_zip, q_enm, q_T, q_sh, q_fr, q_pk, q_fsh, q_ffr, q_fpk, q_cnil, q_ccons, q_aanil, q_aash, q_aaio, q_gnil, q_gcons, q_pnm, q_pix, q_rsh, q_rfr, q_rpk, q_Nnil, q_Ncons, q_Pnil, q_Pcons, q_tsh, q_tfr, q_tpk, q_Sexpr, q_Sset, q_Spar, q_Sunp, q_Siff, q_Sret, q_SretN, q_Swipe, q_SSnil, q_SScons, q_at0, q_atS, q_wnil, q_wcons, q_bnm, q_btp, q_btl, q_snil, q_scons, q_comp, q_dcomp, q_onil, q_osh, q_oio, Option.bind_some, Option.map_some, Option.bind_none, Option.map_none, List.set_cons_zero, List.set_cons_succ, Tg.slots, muK, muF, if_true, Bool.false_eq_true, if_false, ix_0, ix_1, ix_2, ix_3, ix_4, ixt_0, ixt_1, sx_1, sx_2, sx_3, sx_4, eq_int, ne_int, lt_int, gt_int, le_int, ge_int, isin_ev, notin_ev, add_int, sub_int, pow_10_18, tr_bool, io_int, so_list, so_tup, len_list, len_tup, int_int, abs_int, tup_list, tup_tup, lst_list, lst_tup, apSlots, Bool.not_true, Bool.not_false, decide_true, decide_false, reduceIte, reduceCtorEq, Nat.reduceAdd, List.length_map, in_en2, decide_eq_false hk])
        have c4 := comp_filter (C := C) (elt := (.tup (.cons (.v 4) (.cons (.v 7) .nil)))) (tg := .nm 7) (it := .seq (.v 6)) (ifs := (.cons (.cmp .notin (.tup (.cons (.v 4) (.cons (.v 7) .nil))) (.v 2)) .nil)) (ρ := [.sh (.int n), .sh (.list (arrows.map en)), .ow none (.list (g.map en)), .sh (.int (mv : Nat)), .sh (.int (ov : Nat)), .un, .ow none (.list ((((List.range n).map fun k : Nat => (k : Int)).filter fun k => decide (((mv : Int), k) ∈ g)).map PyData.int)), .un])
          (ρ1 := [.sh (.int n), .sh (.list (arrows.map en)), .ow none (.list (g.map en)), .sh (.int (mv : Nat)), .sh (.int (ov : Nat)), .un, .sh (.list ((((List.range n).map fun k : Nat => (k : Int)).filter fun k => decide (((mv : Int), k) ∈ g)).map PyData.int)), .un])
          (as := ((List.range n).map fun k : Nat => (k : Int)).filter fun k => decide (((mv : Int), k) ∈ g)) (T := PyData.int) (g := fun k => en ((ov : Int), k)) (p := fun k => !decide (((ov : Int), k) ∈ g)) (by simp only [q_v, q_con, q_glo, q_no, q_tup, q_lst, q_dnk, q_op2, q_neg, q_cmp, q_cmp2, q_and, q_or, q_not, q_ite, q_bi, q_lrng, q_mu, q_call, q_ix, q_sl, q_rev, q_lnil, q_lcons, q_rnil, q_rcons, q_fnil, q_fcons, q_anil, q_aval, q_aio, q_seq, q_rng1, q_rng2, q_zip, q_enm, q_T, q_sh, q_fr, q_pk, q_fsh, q_ffr, q_fpk, q_cnil, q_ccons, q_aanil, q_aash, q_aaio, q_gnil, q_gcons, q_pnm, q_pix, q_rsh, q_rfr, q_rpk, q_Nnil, q_Ncons, q_Pnil, q_Pcons, q_tsh, q_tfr, q_tpk, q_Sexpr, q_Sset, q_Spar, q_Sunp, q_Siff, q_Sret, q_SretN, q_Swipe, q_SSnil, q_SScons, q_at0, q_atS, q_wnil, q_wcons, q_bnm, q_btp, q_btl, q_snil, q_scons, q_comp, q_dcomp, q_onil, q_osh, q_oio, Option.bind_some, Option.map_some, Option.bind_none, Option.map_none, List.set_cons_zero, List.set_cons_succ, Tg.slots, muK, muF, if_true, Bool.false_eq_true, if_false, ix_0, ix_1, ix_2, ix_3, ix_4, ixt_0, ixt_1, sx_1, sx_2, sx_3, sx_4, eq_int, ne_int, lt_int, gt_int, le_int, ge_int, isin_ev, notin_ev, add_int, sub_int, pow_10_18, tr_bool, io_int, so_list, so_tup, len_list, len_tup, int_int, abs_int, tup_list, tup_tup, lst_list, lst_tup, apSlots, Bool.not_true, Bool.not_false, decide_true, decide_false, reduceIte, reduceCtorEq, Nat.reduceAdd, List.length_map]) (fun k _ => by
          by_cases hk : ((ov : Int), k) ∈ g
          · simp only [q_v, q_con, q_glo, q_no, q_tup, q_lst, q_dnk, q_op2, q_neg, q_cmp, q_cmp2, q_and, q_or, q_not, q_ite, q_bi, q_lrng, q_mu, q_call, q_ix, q_sl, q_rev, q_lnil, q_lcons, q_rnil, q_rcons, q_fnil, q_fcons, q_anil, q_aval, q_aio, q_seq, q_rng1, q_rng2, q_zip, q_enm, q_T, q_sh, q_fr, q_pk, q_fsh, q_ffr, q_fpk, q_cnil, q_ccons, q_aanil, q_aash, q_aaio, q_gnil, q_gcons, q_pnm, q_pix, q_rsh, q_rfr, q_rpk, q_Nnil, q_Ncons, q_Pnil, q_Pcons, q_tsh, q_tfr, q_tpk, q_Sexpr, q_Sset, q_Spar, q_Sunp, q_Siff, q_Sret, q_SretN, q_Swipe, q_SSnil, q_SScons, q_at0, q_atS, q_wnil, q_wcons, q_bnm, q_btp, q_btl, q_snil, q_scons, q_comp, q_dcomp, q_onil, q_osh, q_oio, Option.bind_some, Option.map_some, Option.bind_none, Option.map_none, List.set_cons_zero, List.set_cons_succ, Tg.slots, muK, muF, if_true, Bool.false_eq_true, if_false, ix_0, ix_1, ix_2, ix_3, ix_4, ixt_0, ixt_1, sx_1, sx_2, sx_3, sx_4, eq_int, ne_int, lt_int, gt_int, le_int, ge_int, isin_ev, notin_ev, add_int, sub_int, pow_10_18, tr_bool, io_int, so_list, so_tup, len_list, len_tup, int_int, abs_int, tup_list, tup_tup, lst_list, lst_tup, apSlots, Bool.not_true, Bool.not_false, decide_true, decide_false, reduceIte, reduceCtorEq, Nat.reduceAdd, List.length_map, in_en2, decide_eq_true hk]
          · simp only [q_v, q_con, q_glo, q_no, q_tup, q_lst, q_dnk, q_op2, q_neg, q_cmp, q_cmp2, q_and, q_or, q_not, q_ite, q_bi, q_lrng, q_mu, q_call, q_ix, q_sl, q_rev, q_lnil, q_lcons, q_rnil, q_rcons, q_fnil, q_fcons, q_anil, q_aval, q_aio, q_seq, q_rng1, q_rng2, q_zip, q_enm, q_T, q_sh, q_fr, q_pk, q_fsh, q_ffr, q_fpk, q_cnil, q_ccons, q_aanil, q_aash, q_aaio, q_gnil, q_gcons, q_pnm, q_pix, q_rsh, q_rfr, q_rpk, q_Nnil, q_Ncons, q_Pnil, q_Pcons, q_tsh, q_tfr, q_tpk, q_Sexpr, q_Sset, q_Spar, q_Sunp, q_Siff, q_Sret, q_SretN, q_Swipe, q_SSnil, q_SScons, q_at0, q_atS, q_wnil, q_wcons, q_bnm, q_btp, q_btl, q_snil, q_scons, q_comp, q_dcomp, q_onil, q_osh, q_oio, Option.bind_some, Option.map_some, Option.bind_none, Option.map_none, List.set_cons_zero, List.set_cons_succ, Tg.slots, muK, muF, if_true, Bool.false_eq_true, if_false, ix_0, ix_1, ix_2, ix_3, ix_4, ixt_0, ixt_1, sx_1, sx_2, sx_3, sx_4, eq_int, ne_int, lt_int, gt_int, le_int, ge_int, isin_ev, notin_ev, add_int, sub_int, pow_10_18, tr_bool, io_int, so_list, so_tup, len_list, len_tup, int_int, abs_int, tup_list, tup_tup, lst_list, lst_tup, apSlots, Bool.not_true, Bool.not_false, decide_true, decide_false, reduceIte, reduceCtorEq, Nat.reduceAdd, List.length_map, in_en2, decide_eq_false hk, en_eq])
        have st := hg.next hf.b
        rw [if_pos hin] at st
        have hlen : (g.map en).length + ((((((List.range n).map fun k : Nat => (k : Int)).filter fun k => decide (((mv : Int), k) ∈ g)).filter fun k => !decide (((ov : Int), k) ∈ g)).map fun k => en ((ov : Int), k))).length ≤ 16777216 := by
          have := st.b.few hn
          simp only [newO, List.length_append, List.length_map] at this ⊢
          omega
        refine ⟨_, ?_, g ++ newO n mv ov g, rfl, st⟩
        simp only [q_v, q_con, q_glo, q_no, q_tup, q_lst, q_dnk, q_op2, q_neg, q_cmp, q_cmp2, q_and, q_or, q_not, q_ite, q_bi, q_lrng, q_mu, q_call, q_ix, q_sl, q_rev, q_lnil, q_lcons, q_rnil, q_rcons, q_fnil, q_fcons, q_anil, q_aval, q_aio, q_seq, q_rng1, q_rng2, q_zip, q_enm, q_T, q_sh, q_fr, q_pk, q_fsh, q_ffr, q_fpk, q_cnil, q_ccons, q_aanil, q_aash, q_aaio, q_gnil, q_gcons, q_pnm, q_pix, q_rsh, q_rfr, q_rpk, q_Nnil, q_Ncons, q_Pnil, q_Pcons, q_tsh, q_tfr, q_tpk, q_Sexpr, q_Sset, q_Spar, q_Sunp, q_Siff, q_Sret, q_SretN, q_Swipe, q_SSnil, q_SScons, q_at0, q_atS, q_wnil, q_wcons, q_bnm, q_btp, q_btl, q_snil, q_scons, q_comp, q_dcomp, q_onil, q_osh, q_oio, Option.bind_some, Option.map_some, Option.bind_none, Option.map_none, List.set_cons_zero, List.set_cons_succ, Tg.slots, muK, muF, if_true, Bool.false_eq_true, if_false, ix_0, ix_1, ix_2, ix_3, ix_4, ixt_0, ixt_1, sx_1, sx_2, sx_3, sx_4, eq_int, ne_int, lt_int, gt_int, le_int, ge_int, isin_ev, notin_ev, add_int, sub_int, pow_10_18, tr_bool, io_int, so_list, so_tup, len_list, len_tup, int_int, abs_int, tup_list, tup_tup, lst_list, lst_tup, apSlots, Bool.not_true, Bool.not_false, decide_true, decide_false, reduceIte, reduceCtorEq, Nat.reduceAdd, List.length_map, in_en2, decide_eq_true hin, c3, c4, cat_list hlen]
        rw [List.map_append, newO, List.map_map]
        rfl
      · have st := hg.next hf.b
        rw [if_neg hin] at st
        refine ⟨_, ?_, g, rfl, st⟩
        simp only [q_v, q_con, q_glo, q_no, q_tup, q_lst, q_dnk, q_op2, q_neg, q_cmp, q_cmp2, q_and, q_or, q_not, q_ite, q_bi, q_lrng, q_mu, q_call, q_ix, q_sl, q_rev, q_lnil, q_lcons, q_rnil, q_rcons, q_fnil, q_fcons, q_anil, q_aval, q_aio, q_seq, q_rng1, q_rng2, q_zip, q_enm, q_T, q_sh, q_fr, q_pk, q_fsh, q_ffr, q_fpk, q_cnil, q_ccons, q_aanil, q_aash, q_aaio, q_gnil, q_gcons, q_pnm, q_pix, q_rsh, q_rfr, q_rpk, q_Nnil, q_Ncons, q_Pnil, q_Pcons, q_tsh, q_tfr, q_tpk, q_Sexpr, q_Sset, q_Spar, q_Sunp, q_Siff, q_Sret, q_SretN, q_Swipe, q_SSnil, q_SScons, q_at0, q_atS, q_wnil, q_wcons, q_bnm, q_btp, q_btl, q_snil, q_scons, q_comp, q_dcomp, q_onil, q_osh, q_oio, Option.bind_some, Option.map_some, Option.bind_none, Option.map_none, List.set_cons_zero, List.set_cons_succ, Tg.slots, muK, muF, if_true, Bool.false_eq_true, if_false, ix_0, ix_1, ix_2, ix_3, ix_4, ixt_0, ixt_1, sx_1, sx_2, sx_3, sx_4, eq_int, ne_int, lt_int, gt_int, le_int, ge_int, isin_ev, notin_ev, add_int, sub_int, pow_10_18, tr_bool, io_int, so_list, so_tup, len_list, len_tup, int_int, abs_int, tup_list, tup_tup, lst_list, lst_tup, apSlots, Bool.not_true, Bool.not_false, decide_true, decide_false, reduceIte, reduceCtorEq, Nat.reduceAdd, List.length_map, in_en2, decide_eq_false hin]

theorem perm_ints {ys : List D} {l : List Int} (p : ys.Perm (l.map PyData.int)) : ∃ zs : List Int, ys = zs.map PyData.int ∧ zs.Perm l := by
  let u : D → Int := fun d => match d with | .int i => i | _ => 0
  refine ⟨ys.map u, ?_, ?_⟩
  · rw [List.map_map]
    symm
    conv => rhs; rw [← List.map_id ys]
    refine List.map_congr_left fun d hd => ?_
    obtain ⟨i, _, rfl⟩ := List.mem_map.mp (p.mem_iff.mp hd)
    rfl
  · have := p.map u
    rw [List.map_map] at this
    rw [show l.map (u ∘ PyData.int) = l from (List.map_congr_left fun _ _ => rfl).trans (List.map_id l)] at this
    exact this
/-- an order as the law draws it -/
structure IsOrd (n : Nat) (ps : List PR) : Prop where
  wn : ∀ p ∈ ps, Wn n p
  ir : ∀ p ∈ ps, p.1 ≠ p.2
  as : ∀ a b, (a, b) ∈ ps → (b, a) ∉ ps
  tr : ∀ a b c, (a, b) ∈ ps → (b, c) ∈ ps → (a, c) ∈ ps
  st : ps.Pairwise (fun p q => DatumOrd.lt p q = true)
theorem sorted_lt {f : List PR} (nd : f.Nodup) : (srtT f).Pairwise (fun p q => DatumOrd.lt p q = true) := by
  have h1 := srtT_sorted f
  have h2 : (srtT f).Nodup := (srtT_perm f).nodup_iff.mpr nd
  refine (h1.and h2).imp fun {a b} h => ?_
  obtain ⟨h, h'⟩ := h
  rcases LO.tot a b with q | q | q
  · exact q
  · exact absurd q h'
  · simp [leT, q] at h
theorem Out.ord {n : Nat} {pos : Int → Int} {arrows f : List PR} (h : Out n pos arrows n f) : IsOrd n (srtT f) where
  wn p hp := h.b.wn p (srtT_mem.mp hp)
  ir p hp e := by have := h.b.up p (srtT_mem.mp hp); rw [e] at this; omega
  as a b h1 h2 := by
    have u1 := h.b.up _ (srtT_mem.mp h1)
    have u2 := h.b.up _ (srtT_mem.mp h2)
    simp only at u1 u2
    omega
  tr a b c h1 h2 := by
    have w := (h.b.wn _ (srtT_mem.mp h1)).2
    simp only at w
    have := h.tr a c b.toNat (by omega) (by rw [show ((b.toNat : Nat) : Int) = b by omega]; exact srtT_mem.mp h1) (by rw [show ((b.toNat : Nat) : Int) = b by omega]; exact srtT_mem.mp h2)
    exact srtT_mem.mpr this
  st := sorted_lt h.b.nd
def ordD (n : Nat) (ps : List PR) : D := .tuple [.int n, .tuple (ps.map en)]
def OrderOk (C : Ctx) (k : Nat) (most : Nat) : Prop := ∀ h : D, HandOk h → ∃ n ps h', C.cal k [.io h, .sh (.int most)] = some (false, ordD n ps, [h']) ∧ 1 ≤ n ∧ n ≤ most ∧ IsOrd n ps ∧ HandOk h'
theorem cut_from (xs : List D) (k : Nat) : slEv (.list xs) (.int (k : Int)) .none = some (.fr (.list (xs.drop k))) := by
  show some (RV.fr (.list (cutD xs (some (k : Int)) none))) = _
  congr 3
  simp only [cutD]
  rw [if_pos (by omega)]
  rw [Int.toNat_natCast]
  by_cases h : k ≤ xs.length
  · rw [Nat.min_eq_left h, List.take_of_length_le (by simp)]
  · rw [Nat.min_eq_right (by omega), List.drop_length, List.drop_eq_nil_of_le (by omega)]
    simp
theorem order_ok {C : Ctx} {i_law_draw i_law_mixed i_law_close most : Nat} (hd : DrawOk C i_law_draw) (hm : MixOk C i_law_mixed) (hcl : CloOk C i_law_close) (hmost : 1 ≤ most) (hmost2 : most ≤ 50) {h : D} (hh : HandOk h) :
    ∃ n ps h', callB C 9 (g_law_order i_law_draw i_law_mixed i_law_close) [.io h, .sh (.int most)] = some (false, ordD n ps, [h']) ∧ 1 ≤ n ∧ n ≤ most ∧ IsOrd n ps ∧ HandOk h' := by
  obtain ⟨f1, h1, e1, a1, a2, hh1⟩ := hd h most hh (by omega) (by omega)
  obtain ⟨m, rfl⟩ : ∃ m : Nat, f1 = m := ⟨f1.toNat, by omega⟩
  obtain ⟨ys, h2, e2, py, hh2⟩ := hm h1 ((List.range (1 + m)).map fun k => (PyData.int (k : Nat))) hh1 (by simp; omega)
  obtain ⟨f3, h3, e3, b1, b2, hh3⟩ := hd h2 4 hh2 (by omega) (by omega)
  have py' : ys.Perm (((List.range (1 + m)).map fun k : Nat => (k : Int)).map PyData.int) := by rw [List.map_map]; exact py
  obtain ⟨zs, rfl, pz⟩ := perm_ints py'
  have rng : evI C (.rng1 (.v 2)) [.ow (some 0) h1, .sh (.int most), .sh (.int (1 + (m : Int))), .un, .un, .un, .un, .un, .un] = some ((List.range (1 + m)).map fun k => (PyData.int (k : Nat)), [.ow (some 0) h1, .sh (.int most), .sh (.int (1 + (m : Int))), .un, .un, .un, .un, .un, .un]) := by
    simp only [q_v, q_con, q_glo, q_no, q_tup, q_lst, q_dnk, q_op2, q_neg, q_cmp, q_cmp2, q_and, q_or, q_not, q_ite, q_bi, q_lrng, q_mu, q_call, q_ix, q_sl, q_rev, q_lnil, q_lcons, q_rnil, q_rcons, q_fnil, q_fcons, q_anil, q_aval, q_aio, q_seq, q_rng1, q_rng2, q_zip, q_enm, q_T, q_sh, q_fr, q_pk, q_fsh, q_ffr, q_fpk, q_cnil, q_ccons, q_aanil, q_aash, q_aaio, q_gnil, q_gcons, q_pnm, q_pix, q_rsh, q_rfr, q_rpk, q_Nnil, q_Ncons, q_Pnil, q_Pcons, q_tsh, q_tfr, q_tpk, q_Sexpr, q_Sset, q_Spar, q_Sunp, q_Siff, q_Sret, q_SretN, q_Swipe, q_SSnil, q_SScons, q_at0, q_atS, q_wnil, q_wcons, q_bnm, q_btp, q_btl, q_snil, q_scons, q_comp, q_dcomp, q_onil, q_osh, q_oio, Option.bind_some, Option.map_some, Option.bind_none, Option.map_none, List.set_cons_zero, List.set_cons_succ, Tg.slots, muK, muF, if_true, Bool.false_eq_true, if_false, ix_0, ix_1, ix_2, ix_3, ix_4, ixt_0, ixt_1, sx_1, sx_2, sx_3, sx_4, eq_int, ne_int, lt_int, gt_int, le_int, ge_int, isin_ev, notin_ev, add_int, sub_int, pow_10_18, tr_bool, io_int, so_list, so_tup, len_list, len_tup, int_int, abs_int, tup_list, tup_tup, lst_list, lst_tup, apSlots, Bool.not_true, Bool.not_false, decide_true, decide_false, reduceIte, reduceCtorEq, Nat.reduceAdd, List.length_map]
    rw [if_pos (by omega), show (1 + (m : Int)).toNat = 1 + m by omega]
  have zn : zs.Nodup := by
    refine (pz.nodup_iff).mpr ?_
    have p0 : List.Pairwise (· ≠ ·) (List.range (1 + m)) := List.nodup_range
    exact p0.map _ fun a b h e => h (by omega)
  have zlen : zs.length = 1 + m := by rw [pz.length_eq]; simp
  have zin : ∀ z ∈ zs, 0 ≤ z ∧ z < (1 + m : Nat) := fun z hz => by
    obtain ⟨k, hk, rfl⟩ := List.mem_map.mp (pz.mem_iff.mp hz)
    have := List.mem_range.mp hk
    omega
  let pos : Int → Int := fun x => (zs.idxOf x : Nat)
  have posz : ∀ (j : Nat) (hj : j < zs.length), pos zs[j] = j := fun j hj => by
    show ((zs.idxOf zs[j] : Nat) : Int) = j
    rw [zn.idxOf_getElem]
  unfold callB g_law_order
  rw [show startE 9 [Ar.io h, .sh (.int most)] = [.ow (some 0) h, .sh (.int most), .un, .un, .un, .un, .un, .un, .un] from rfl]
  have hen : evI C (.enm (.v 3)) [.ow (some 0) h3, .sh (.int most), .sh (.int (1 + (m : Int))), .ow none (.list (zs.map PyData.int)), .ow none (.list []), .sh (.int (1 + f3)), .un, .un, .un] = some (zs.zipIdx.map (fun q => .tuple [.int (q.2 : Nat), .int q.1]), [.ow (some 0) h3, .sh (.int most), .sh (.int (1 + (m : Int))), .sh (.list (zs.map PyData.int)), .ow none (.list []), .sh (.int (1 + f3)), .un, .un, .un]) := by
    simp only [q_v, q_con, q_glo, q_no, q_tup, q_lst, q_dnk, q_op2, q_neg, q_cmp, q_cmp2, q_and, q_or, q_not, q_ite, q_bi, q_lrng, q_mu, q_call, q_ix, q_sl, q_rev, q_lnil, q_lcons, q_rnil, q_rcons, q_fnil, q_fcons, q_anil, q_aval, q_aio, q_seq, q_rng1, q_rng2, q_zip, q_enm, q_T, q_sh, q_fr, q_pk, q_fsh, q_ffr, q_fpk, q_cnil, q_ccons, q_aanil, q_aash, q_aaio, q_gnil, q_gcons, q_pnm, q_pix, q_rsh, q_rfr, q_rpk, q_Nnil, q_Ncons, q_Pnil, q_Pcons, q_tsh, q_tfr, q_tpk, q_Sexpr, q_Sset, q_Spar, q_Sunp, q_Siff, q_Sret, q_SretN, q_Swipe, q_SSnil, q_SScons, q_at0, q_atS, q_wnil, q_wcons, q_bnm, q_btp, q_btl, q_snil, q_scons, q_comp, q_dcomp, q_onil, q_osh, q_oio, Option.bind_some, Option.map_some, Option.bind_none, Option.map_none, List.set_cons_zero, List.set_cons_succ, Tg.slots, muK, muF, if_true, Bool.false_eq_true, if_false, ix_0, ix_1, ix_2, ix_3, ix_4, ixt_0, ixt_1, sx_1, sx_2, sx_3, sx_4, eq_int, ne_int, lt_int, gt_int, le_int, ge_int, isin_ev, notin_ev, add_int, sub_int, pow_10_18, tr_bool, io_int, so_list, so_tup, len_list, len_tup, int_int, abs_int, tup_list, tup_tup, lst_list, lst_tup, apSlots, Bool.not_true, Bool.not_false, decide_true, decide_false, reduceIte, reduceCtorEq, Nat.reduceAdd, List.length_map, enmEv]
    congr 2
    rw [List.mapIdx_eq_zipIdx_map, List.zipIdx_map, List.map_map]
    rfl
  have w := for_go (C := C) (tg := .tp [6, 7]) (body := (.cons (.set (.nm 4) (.op2 .add (.v 4) (.comp (.tup (.cons (.v 7) (.cons (.v 8) .nil))) (.nm 8) (.seq (.sl (.v 3) (.op2 .add (.v 6) (.con (.int 1))) .no)) (.cons (.cmp .lt (.call i_law_draw (.io 0 (.val (.con (.int 5)) .nil))) (.v 5)) .nil)))) (.cons (.wipe [6, 7]) .nil))) hen (fun i ρ => ∃ h' f, ρ = [.ow (some 0) h', .sh (.int most), .sh (.int (1 + (m : Int))), .sh (.list (zs.map PyData.int)), .ow none (.list (f.map en)), .sh (.int (1 + f3)), .un, .un, .un] ∧ HandOk h' ∧ ClB (1 + m) pos f ∧ ∀ p ∈ f, pos p.1 < i)
    ⟨h3, [], rfl, hh3, ⟨List.nodup_nil, nofun, nofun⟩, nofun⟩ (fun i q ρ2 hi hI => ?_)
  · obtain ⟨ρ2, e4, h4, f, rfl, hh4, cb, _⟩ := w
    obtain ⟨g, e5, out⟩ := hcl (1 + m) pos f (by omega) cb
    refine ⟨1 + m, srtT g, h4, ?_, by omega, by omega, out.ord, hh4⟩
    rw [show ((1 + m : Nat) : Int) = 1 + (m : Int) by omega] at e5
    simp only [q_v, q_con, q_glo, q_no, q_tup, q_lst, q_dnk, q_op2, q_neg, q_cmp, q_cmp2, q_and, q_or, q_not, q_ite, q_bi, q_lrng, q_mu, q_call, q_ix, q_sl, q_rev, q_lnil, q_lcons, q_rnil, q_rcons, q_fnil, q_fcons, q_anil, q_aval, q_aio, q_seq, q_rng1, q_rng2, q_zip, q_enm, q_T, q_sh, q_fr, q_pk, q_fsh, q_ffr, q_fpk, q_cnil, q_ccons, q_aanil, q_aash, q_aaio, q_gnil, q_gcons, q_pnm, q_pix, q_rsh, q_rfr, q_rpk, q_Nnil, q_Ncons, q_Pnil, q_Pcons, q_tsh, q_tfr, q_tpk, q_Sexpr, q_Sset, q_Spar, q_Sunp, q_Siff, q_Sret, q_SretN, q_Swipe, q_SSnil, q_SScons, q_at0, q_atS, q_wnil, q_wcons, q_bnm, q_btp, q_btl, q_snil, q_scons, q_comp, q_dcomp, q_onil, q_osh, q_oio, Option.bind_some, Option.map_some, Option.bind_none, Option.map_none, List.set_cons_zero, List.set_cons_succ, Tg.slots, muK, muF, if_true, Bool.false_eq_true, if_false, ix_0, ix_1, ix_2, ix_3, ix_4, ixt_0, ixt_1, sx_1, sx_2, sx_3, sx_4, eq_int, ne_int, lt_int, gt_int, le_int, ge_int, isin_ev, notin_ev, add_int, sub_int, pow_10_18, tr_bool, io_int, so_list, so_tup, len_list, len_tup, int_int, abs_int, tup_list, tup_tup, lst_list, lst_tup, apSlots, Bool.not_true, Bool.not_false, decide_true, decide_false, reduceIte, reduceCtorEq, Nat.reduceAdd, List.length_map, e1, rng, e2, e3, e4, e5, List.nodup_cons, List.not_mem_nil, not_false_eq_true, List.nodup_nil, and_self]
    rw [ordD, show ((1 + m : Nat) : Int) = 1 + (m : Int) by omega]
  · obtain ⟨h4, f, rfl, hh4, cb, lo⟩ := hI
    obtain ⟨hlt, hq⟩ := List.getElem?_eq_some_iff.mp hi
    rw [List.length_zipIdx] at hlt
    have hq2 : q = (zs[i], i) := by rw [← hq]; simp
    subst hq2
    have sl : evI C (.seq (.sl (.v 3) (.op2 .add (.v 6) (.con (.int 1))) .no)) [.ow (some 0) h4, .sh (.int most), .sh (.int (1 + (m : Int))), .sh (.list (zs.map PyData.int)), .ow none (.list (f.map en)), .sh (.int (1 + f3)), .sh (.int (i : Nat)), .sh (.int zs[i]), .un] = some ((zs.drop (i + 1)).map PyData.int, [.ow (some 0) h4, .sh (.int most), .sh (.int (1 + (m : Int))), .sh (.list (zs.map PyData.int)), .ow none (.list (f.map en)), .sh (.int (1 + f3)), .sh (.int (i : Nat)), .sh (.int zs[i]), .un]) := by
      have := cut_from (zs.map PyData.int) (i + 1)
      rw [show ((i + 1 : Nat) : Int) = (i : Int) + 1 by omega] at this
      simp only [q_v, q_con, q_glo, q_no, q_tup, q_lst, q_dnk, q_op2, q_neg, q_cmp, q_cmp2, q_and, q_or, q_not, q_ite, q_bi, q_lrng, q_mu, q_call, q_ix, q_sl, q_rev, q_lnil, q_lcons, q_rnil, q_rcons, q_fnil, q_fcons, q_anil, q_aval, q_aio, q_seq, q_rng1, q_rng2, q_zip, q_enm, q_T, q_sh, q_fr, q_pk, q_fsh, q_ffr, q_fpk, q_cnil, q_ccons, q_aanil, q_aash, q_aaio, q_gnil, q_gcons, q_pnm, q_pix, q_rsh, q_rfr, q_rpk, q_Nnil, q_Ncons, q_Pnil, q_Pcons, q_tsh, q_tfr, q_tpk, q_Sexpr, q_Sset, q_Spar, q_Sunp, q_Siff, q_Sret, q_SretN, q_Swipe, q_SSnil, q_SScons, q_at0, q_atS, q_wnil, q_wcons, q_bnm, q_btp, q_btl, q_snil, q_scons, q_comp, q_dcomp, q_onil, q_osh, q_oio, Option.bind_some, Option.map_some, Option.bind_none, Option.map_none, List.set_cons_zero, List.set_cons_succ, Tg.slots, muK, muF, if_true, Bool.false_eq_true, if_false, ix_0, ix_1, ix_2, ix_3, ix_4, ixt_0, ixt_1, sx_1, sx_2, sx_3, sx_4, eq_int, ne_int, lt_int, gt_int, le_int, ge_int, isin_ev, notin_ev, add_int, sub_int, pow_10_18, tr_bool, io_int, so_list, so_tup, len_list, len_tup, int_int, abs_int, tup_list, tup_tup, lst_list, lst_tup, apSlots, Bool.not_true, Bool.not_false, decide_true, decide_false, reduceIte, reduceCtorEq, Nat.reduceAdd, List.length_map, this]
      rw [List.map_drop]
    have cg := comp_go (C := C) (elt := (.tup (.cons (.v 7) (.cons (.v 8) .nil)))) (tg := .nm 8) (ifs := (.cons (.cmp .lt (.call i_law_draw (.io 0 (.val (.con (.int 5)) .nil))) (.v 5)) .nil)) sl (fun k out ρ => ∃ h' g, ρ = [.ow (some 0) h', .sh (.int most), .sh (.int (1 + (m : Int))), .sh (.list (zs.map PyData.int)), .ow none (.list (f.map en)), .sh (.int (1 + f3)), .sh (.int (i : Nat)), .sh (.int zs[i]), .un] ∧ HandOk h' ∧ out = g.map en ∧ g.Sublist (((zs.drop (i + 1)).take k).map fun z => (zs[i], z)))
      ⟨h4, [], rfl, hh4, rfl, List.Sublist.refl _⟩ (fun k z out ρ2 hz hI => ?_)
    · obtain ⟨out, ρ2, e6, h5, g, rfl, hh5, rfl, sub⟩ := cg
      rw [List.take_length] at sub
      have gin : ∀ p ∈ g, p.1 = zs[i] ∧ ∃ j, ∃ hj : j < zs.length, i < j ∧ p.2 = zs[j] := fun p hp => by
        obtain ⟨z, hz, rfl⟩ := List.mem_map.mp (sub.subset hp)
        obtain ⟨j, hj, rfl⟩ := List.mem_iff_getElem.mp hz
        rw [List.length_drop] at hj
        exact ⟨rfl, i + 1 + j, by omega, by omega, by simp⟩
      have gnd : g.Nodup := by
        refine List.Nodup.sublist sub ?_
        have p0 : List.Pairwise (· ≠ ·) (zs.drop (i + 1)) := zn.sublist (List.drop_sublist _ _)
        exact p0.map _ fun a b h e => h (congrArg Prod.snd e)
      have cb2 : ClB (1 + m) pos (f ++ g) := by
        refine ⟨List.nodup_append.mpr ⟨cb.nd, gnd, fun x hx y hy e => ?_⟩, fun p hp => ?_, fun p hp => ?_⟩
        · subst e
          have := lo x hx
          rw [(gin x hy).1, posz i hlt] at this
          omega
        · rcases List.mem_append.mp hp with hp | hp
          · exact cb.wn p hp
          · obtain ⟨g1, j, hj, g2, g3⟩ := gin p hp
            exact ⟨g1 ▸ zin _ (List.getElem_mem hlt), g3 ▸ zin _ (List.getElem_mem hj)⟩
        · rcases List.mem_append.mp hp with hp | hp
          · exact cb.up p hp
          · obtain ⟨g1, j, hj, g2, g3⟩ := gin p hp
            rw [g1, g3, posz i hlt, posz j hj]
            omega
      have hlen : (f.map en).length + (g.map en).length ≤ 16777216 := by
        have := cb2.few (by omega)
        simp only [List.length_append, List.length_map] at this ⊢
        omega
      refine ⟨_, ?_, h5, f ++ g, rfl, hh5, cb2, fun p hp => ?_⟩
      · simp only [q_v, q_con, q_glo, q_no, q_tup, q_lst, q_dnk, q_op2, q_neg, q_cmp, q_cmp2, q_and, q_or, q_not, q_ite, q_bi, q_lrng, q_mu, q_call, q_ix, q_sl, q_rev, q_lnil, q_lcons, q_rnil, q_rcons, q_fnil, q_fcons, q_anil, q_aval, q_aio, q_seq, q_rng1, q_rng2, q_zip, q_enm, q_T, q_sh, q_fr, q_pk, q_fsh, q_ffr, q_fpk, q_cnil, q_ccons, q_aanil, q_aash, q_aaio, q_gnil, q_gcons, q_pnm, q_pix, q_rsh, q_rfr, q_rpk, q_Nnil, q_Ncons, q_Pnil, q_Pcons, q_tsh, q_tfr, q_tpk, q_Sexpr, q_Sset, q_Spar, q_Sunp, q_Siff, q_Sret, q_SretN, q_Swipe, q_SSnil, q_SScons, q_at0, q_atS, q_wnil, q_wcons, q_bnm, q_btp, q_btl, q_snil, q_scons, q_comp, q_dcomp, q_onil, q_osh, q_oio, Option.bind_some, Option.map_some, Option.bind_none, Option.map_none, List.set_cons_zero, List.set_cons_succ, Tg.slots, muK, muF, if_true, Bool.false_eq_true, if_false, ix_0, ix_1, ix_2, ix_3, ix_4, ixt_0, ixt_1, sx_1, sx_2, sx_3, sx_4, eq_int, ne_int, lt_int, gt_int, le_int, ge_int, isin_ev, notin_ev, add_int, sub_int, pow_10_18, tr_bool, io_int, so_list, so_tup, len_list, len_tup, int_int, abs_int, tup_list, tup_tup, lst_list, lst_tup, apSlots, Bool.not_true, Bool.not_false, decide_true, decide_false, reduceIte, reduceCtorEq, Nat.reduceAdd, List.length_map, e6, backE, cat_list hlen]
        rw [List.map_append]
      · rcases List.mem_append.mp hp with hp | hp
        · have := lo p hp; omega
        · rw [(gin p hp).1, posz i hlt]; omega
    · obtain ⟨h5, g, rfl, hh5, rfl, sub⟩ := hI
      obtain ⟨fg, h6, e7, c1, c2, hh6⟩ := hd h5 5 hh5 (by omega) (by omega)
      have tk : ((zs.drop (i + 1)).take (k + 1)).map (fun z => (zs[i], z)) = ((zs.drop (i + 1)).take k).map (fun z => (zs[i], z)) ++ [(zs[i], z)] := by
        rw [List.take_succ, hz, List.map_append]
        rfl
      by_cases hc : fg < 1 + f3
      · refine ⟨some (en (zs[i], z)), _, ?_, h6, g ++ [(zs[i], z)], rfl, hh6, by simp, by rw [tk]; exact sub.append (List.Sublist.refl _)⟩
        simp only [q_v, q_con, q_glo, q_no, q_tup, q_lst, q_dnk, q_op2, q_neg, q_cmp, q_cmp2, q_and, q_or, q_not, q_ite, q_bi, q_lrng, q_mu, q_call, q_ix, q_sl, q_rev, q_lnil, q_lcons, q_rnil, q_rcons, q_fnil, q_fcons, q_anil, q_aval, q_aio, q_seq, q_rng1, q_rng2, q_zip, q_enm, q_T, q_sh, q_fr, q_pk, q_fsh, q_ffr, q_fpk, q_cnil, q_ccons, q_aanil, q_aash, q_aaio, q_gnil, q_gcons, q_pnm, q_pix, q_rsh, q_rfr, q_rpk, q_Nnil, q_Ncons, q_Pnil, q_Pcons, q_tsh, q_tfr, q_tpk, q_Sexpr, q_Sset, q_Spar, q_Sunp, q_Siff, q_Sret, q_SretN, q_Swipe, q_SSnil, q_SScons, q_at0, q_atS, q_wnil, q_wcons, q_bnm, q_btp, q_btl, q_snil, q_scons, q_comp, q_dcomp, q_onil, q_osh, q_oio, Option.bind_some, Option.map_some, Option.bind_none, Option.map_none, List.set_cons_zero, List.set_cons_succ, Tg.slots, muK, muF, if_true, Bool.false_eq_true, if_false, ix_0, ix_1, ix_2, ix_3, ix_4, ixt_0, ixt_1, sx_1, sx_2, sx_3, sx_4, eq_int, ne_int, lt_int, gt_int, le_int, ge_int, isin_ev, notin_ev, add_int, sub_int, pow_10_18, tr_bool, io_int, so_list, so_tup, len_list, len_tup, int_int, abs_int, tup_list, tup_tup, lst_list, lst_tup, apSlots, Bool.not_true, Bool.not_false, decide_true, decide_false, reduceIte, reduceCtorEq, Nat.reduceAdd, List.length_map, e7, decide_eq_true hc, List.nodup_cons, List.not_mem_nil, not_false_eq_true, List.nodup_nil, and_self]
        rfl
      · refine ⟨none, _, ?_, h6, g, rfl, hh6, by simp, by rw [tk]; exact sub.trans (List.sublist_append_left _ _)⟩
        simp only [q_v, q_con, q_glo, q_no, q_tup, q_lst, q_dnk, q_op2, q_neg, q_cmp, q_cmp2, q_and, q_or, q_not, q_ite, q_bi, q_lrng, q_mu, q_call, q_ix, q_sl, q_rev, q_lnil, q_lcons, q_rnil, q_rcons, q_fnil, q_fcons, q_anil, q_aval, q_aio, q_seq, q_rng1, q_rng2, q_zip, q_enm, q_T, q_sh, q_fr, q_pk, q_fsh, q_ffr, q_fpk, q_cnil, q_ccons, q_aanil, q_aash, q_aaio, q_gnil, q_gcons, q_pnm, q_pix, q_rsh, q_rfr, q_rpk, q_Nnil, q_Ncons, q_Pnil, q_Pcons, q_tsh, q_tfr, q_tpk, q_Sexpr, q_Sset, q_Spar, q_Sunp, q_Siff, q_Sret, q_SretN, q_Swipe, q_SSnil, q_SScons, q_at0, q_atS, q_wnil, q_wcons, q_bnm, q_btp, q_btl, q_snil, q_scons, q_comp, q_dcomp, q_onil, q_osh, q_oio, Option.bind_some, Option.map_some, Option.bind_none, Option.map_none, List.set_cons_zero, List.set_cons_succ, Tg.slots, muK, muF, if_true, Bool.false_eq_true, if_false, ix_0, ix_1, ix_2, ix_3, ix_4, ixt_0, ixt_1, sx_1, sx_2, sx_3, sx_4, eq_int, ne_int, lt_int, gt_int, le_int, ge_int, isin_ev, notin_ev, add_int, sub_int, pow_10_18, tr_bool, io_int, so_list, so_tup, len_list, len_tup, int_int, abs_int, tup_list, tup_tup, lst_list, lst_tup, apSlots, Bool.not_true, Bool.not_false, decide_true, decide_false, reduceIte, reduceCtorEq, Nat.reduceAdd, List.length_map, e7, decide_eq_false hc, List.nodup_cons, List.not_mem_nil, not_false_eq_true, List.nodup_nil, and_self]
end PI

set_option Elab.async false
set_option linter.all false
set_option maxRecDepth 100000
set_option maxHeartbeats 4000000
/-! QD: what the program says of an order. -/
namespace PI
set_option autoImplicit false
open PySem PySem.W
def g_is_integer : Ss := (.cons (.ret (.and (.bi (.isi [.int]) (.cons (.v 0) .nil)) (.not (.bi (.isi [.bool]) (.cons (.v 0) .nil))))) .nil)
def g_is_within (i_is_integer : Nat) : Ss := (.cons (.ret (.and (.call i_is_integer (.val (.v 0) .nil)) (.cmp2 .le .le (.v 1) (.v 0) (.v 2)))) .nil)
def g_is_sized : Ss := (.cons (.ret (.and (.bi (.isi [.tuple]) (.cons (.v 0) .nil)) (.cmp2 .le .le (.v 1) (.bi .len (.cons (.v 0) .nil)) (.v 2)))) .nil)
def g_are_pairs (i_is_sized i_is_within : Nat) : Ss := (.cons (.iff (.or (.not (.bi (.isi [.tuple]) (.cons (.v 1) .nil))) (.not (.bi .all (.cons (.comp (.call i_is_sized (.val (.v 2) (.val (.con (.int 2)) (.val (.con (.int 2)) .nil)))) (.nm 2) (.seq (.v 1)) .nil) .nil)))) (.cons (.ret (.con (.bool false))) .nil) .nil) (.cons (.ret (.bi .all (.cons (.comp (.bi .all (.cons (.comp (.call i_is_within (.val (.v 3) (.val (.con (.int 0)) (.val (.op2 .sub (.v 0) (.con (.int 1))) .nil)))) (.nm 3) (.seq (.v 2)) .nil) .nil)) (.nm 2) (.seq (.v 1)) .nil) .nil))) .nil))
def g_is_order (i_is_sized i_is_within i_are_pairs : Nat) : Ss := (.cons (.iff (.or (.not (.call i_is_sized (.val (.v 0) (.val (.con (.int 2)) (.val (.con (.int 2)) .nil))))) (.or (.not (.call i_is_within (.val (.ix (.v 0) (.con (.int 0))) (.val (.con (.int 1)) (.val (.glo "MOST_POINTS" (.int 8)) .nil))))) (.not (.call i_are_pairs (.val (.ix (.v 0) (.con (.int 0))) (.val (.ix (.v 0) (.con (.int 1))) .nil)))))) (.cons (.ret (.con (.bool false))) .nil) .nil) (.cons (.unp [2, 3] (.v 0)) (.cons (.iff (.or (.cmp .gt (.bi .len (.cons (.v 3) .nil)) (.glo "MOST_ARROWS" (.int 56))) (.not (.bi .all (.cons (.comp (.cmp .lt (.v 7) (.v 8)) (.tp [7, 8]) (.zip (.v 3) (.sl (.v 3) (.con (.int 1)) .no)) .nil) .nil)))) (.cons (.ret (.con (.bool false))) .nil) .nil) (.cons (.set (.nm 1) (.dcomp (.v 6) (.con (.bool true)) (.nm 6) (.seq (.v 3)) .nil)) (.cons (.for (.tp [4, 5]) (.seq (.v 3)) (.cons (.iff (.or (.cmp .eq (.v 4) (.v 5)) (.or (.cmp .isin (.tup (.cons (.v 5) (.cons (.v 4) .nil))) (.v 1)) (.bi .any (.cons (.comp (.cmp .notin (.tup (.cons (.v 4) (.cons (.v 10) .nil))) (.v 1)) (.tp [9, 10]) (.seq (.v 3)) (.cons (.cmp .eq (.v 9) (.v 5)) .nil)) .nil)))) (.cons (.ret (.con (.bool false))) .nil) .nil) (.cons (.wipe [4, 5]) .nil))) (.cons (.ret (.con (.bool true))) .nil))))))
def g_check_order (i_is_order : Nat) : Ss := (.cons (.iff (.not (.call i_is_order (.val (.v 0) .nil))) (.cons .bad .nil) .nil) .nil)
theorem isi_int (ts : List Ty) (i : Int) : biEv (.isi ts) [.int i] = some (.sh (.bool (ts.any fun t => isTy t (.int i)))) := rfl
theorem isi_tup (ts : List Ty) (xs : List D) : biEv (.isi ts) [.tuple xs] = some (.sh (.bool (ts.any fun t => isTy t (.tuple xs)))) := rfl
theorem isi_lst (ts : List Ty) (xs : List D) : biEv (.isi ts) [.list xs] = some (.sh (.bool (ts.any fun t => isTy t (.list xs)))) := rfl
theorem isi_str (ts : List Ty) (x : Str) : biEv (.isi ts) [.str x] = some (.sh (.bool (ts.any fun t => isTy t (.str x)))) := rfl
def IntOk (C : Ctx) (k : Nat) : Prop := ∀ i : Int, C.cal k [.sh (.int i)] = some (false, .bool true, [])
def WithinOk (C : Ctx) (k : Nat) : Prop := ∀ i a b : Int, C.cal k [.sh (.int i), .sh (.int a), .sh (.int b)] = some (false, .bool (decide (a ≤ i) && decide (i ≤ b)), [])
def SizedOk (C : Ctx) (k : Nat) : Prop := ∀ (xs : List D) (a b : Int), C.cal k [.sh (.tuple xs), .sh (.int a), .sh (.int b)] = some (false, .bool (decide (a ≤ xs.length) && decide ((xs.length : Int) ≤ b)), [])
theorem integer_ok {C : Ctx} (i : Int) : callB C 1 g_is_integer [.sh (.int i)] = some (false, .bool true, []) := by
  unfold callB g_is_integer
  rw [show startE 1 [Ar.sh (.int i)] = [.sh (.int i)] from rfl]
  simp only [q_v, q_con, q_glo, q_no, q_tup, q_lst, q_dnk, q_op2, q_neg, q_cmp, q_cmp2, q_and, q_or, q_not, q_ite, q_bi, q_lrng, q_mu, q_call, q_ix, q_sl, q_rev, q_lnil, q_lcons, q_rnil, q_rcons, q_fnil, q_fcons, q_anil, q_aval, q_aio, q_seq, q_rng1, q_rng2, q_zip, q_enm, q_T, q_sh, q_fr, q_pk, q_fsh, q_ffr, q_fpk, q_cnil, q_ccons, q_aanil, q_aash, q_aaio, q_gnil, q_gcons, q_pnm, q_pix, q_rsh, q_rfr, q_rpk, q_Nnil, q_Ncons, q_Pnil, q_Pcons, q_tsh, q_tfr, q_tpk, q_Sexpr, q_Sset, q_Spar, q_Sunp, q_Siff, q_Sret, q_SretN, q_Swipe, q_SSnil, q_SScons, q_at0, q_atS, q_wnil, q_wcons, q_bnm, q_btp, q_btl, q_snil, q_scons, q_comp, q_dcomp, q_onil, q_osh, q_oio, Option.bind_some, Option.map_some, Option.bind_none, Option.map_none, List.set_cons_zero, List.set_cons_succ, Tg.slots, muK, muF, if_true, Bool.false_eq_true, if_false, ix_0, ix_1, ix_2, ix_3, ix_4, ixt_0, ixt_1, sx_1, sx_2, sx_3, sx_4, eq_int, ne_int, lt_int, gt_int, le_int, ge_int, isin_ev, notin_ev, add_int, sub_int, pow_10_18, tr_bool, io_int, so_list, so_tup, len_list, len_tup, int_int, abs_int, tup_list, tup_tup, lst_list, lst_tup, apSlots, Bool.not_true, Bool.not_false, decide_true, decide_false, reduceIte, reduceCtorEq, Nat.reduceAdd, List.length_map, isi_int, List.any_cons, List.any_nil, isTy, Bool.or_false, Bool.or_self]
theorem within_ok {C : Ctx} {i_is_integer : Nat} (h : IntOk C i_is_integer) (i a b : Int) : callB C 3 (g_is_within i_is_integer) [.sh (.int i), .sh (.int a), .sh (.int b)] = some (false, .bool (decide (a ≤ i) && decide (i ≤ b)), []) := by
  unfold callB g_is_within
  rw [show startE 3 [Ar.sh (.int i), .sh (.int a), .sh (.int b)] = [.sh (.int i), .sh (.int a), .sh (.int b)] from rfl]
  by_cases h1 : a ≤ i
  · simp only [q_v, q_con, q_glo, q_no, q_tup, q_lst, q_dnk, q_op2, q_neg, q_cmp, q_cmp2, q_and, q_or, q_not, q_ite, q_bi, q_lrng, q_mu, q_call, q_ix, q_sl, q_rev, q_lnil, q_lcons, q_rnil, q_rcons, q_fnil, q_fcons, q_anil, q_aval, q_aio, q_seq, q_rng1, q_rng2, q_zip, q_enm, q_T, q_sh, q_fr, q_pk, q_fsh, q_ffr, q_fpk, q_cnil, q_ccons, q_aanil, q_aash, q_aaio, q_gnil, q_gcons, q_pnm, q_pix, q_rsh, q_rfr, q_rpk, q_Nnil, q_Ncons, q_Pnil, q_Pcons, q_tsh, q_tfr, q_tpk, q_Sexpr, q_Sset, q_Spar, q_Sunp, q_Siff, q_Sret, q_SretN, q_Swipe, q_SSnil, q_SScons, q_at0, q_atS, q_wnil, q_wcons, q_bnm, q_btp, q_btl, q_snil, q_scons, q_comp, q_dcomp, q_onil, q_osh, q_oio, Option.bind_some, Option.map_some, Option.bind_none, Option.map_none, List.set_cons_zero, List.set_cons_succ, Tg.slots, muK, muF, if_true, Bool.false_eq_true, if_false, ix_0, ix_1, ix_2, ix_3, ix_4, ixt_0, ixt_1, sx_1, sx_2, sx_3, sx_4, eq_int, ne_int, lt_int, gt_int, le_int, ge_int, isin_ev, notin_ev, add_int, sub_int, pow_10_18, tr_bool, io_int, so_list, so_tup, len_list, len_tup, int_int, abs_int, tup_list, tup_tup, lst_list, lst_tup, apSlots, Bool.not_true, Bool.not_false, decide_true, decide_false, reduceIte, reduceCtorEq, Nat.reduceAdd, List.length_map, h i, List.nodup_nil, decide_eq_true h1, Bool.true_and]
  · simp only [q_v, q_con, q_glo, q_no, q_tup, q_lst, q_dnk, q_op2, q_neg, q_cmp, q_cmp2, q_and, q_or, q_not, q_ite, q_bi, q_lrng, q_mu, q_call, q_ix, q_sl, q_rev, q_lnil, q_lcons, q_rnil, q_rcons, q_fnil, q_fcons, q_anil, q_aval, q_aio, q_seq, q_rng1, q_rng2, q_zip, q_enm, q_T, q_sh, q_fr, q_pk, q_fsh, q_ffr, q_fpk, q_cnil, q_ccons, q_aanil, q_aash, q_aaio, q_gnil, q_gcons, q_pnm, q_pix, q_rsh, q_rfr, q_rpk, q_Nnil, q_Ncons, q_Pnil, q_Pcons, q_tsh, q_tfr, q_tpk, q_Sexpr, q_Sset, q_Spar, q_Sunp, q_Siff, q_Sret, q_SretN, q_Swipe, q_SSnil, q_SScons, q_at0, q_atS, q_wnil, q_wcons, q_bnm, q_btp, q_btl, q_snil, q_scons, q_comp, q_dcomp, q_onil, q_osh, q_oio, Option.bind_some, Option.map_some, Option.bind_none, Option.map_none, List.set_cons_zero, List.set_cons_succ, Tg.slots, muK, muF, if_true, Bool.false_eq_true, if_false, ix_0, ix_1, ix_2, ix_3, ix_4, ixt_0, ixt_1, sx_1, sx_2, sx_3, sx_4, eq_int, ne_int, lt_int, gt_int, le_int, ge_int, isin_ev, notin_ev, add_int, sub_int, pow_10_18, tr_bool, io_int, so_list, so_tup, len_list, len_tup, int_int, abs_int, tup_list, tup_tup, lst_list, lst_tup, apSlots, Bool.not_true, Bool.not_false, decide_true, decide_false, reduceIte, reduceCtorEq, Nat.reduceAdd, List.length_map, h i, List.nodup_nil, decide_eq_false h1, Bool.false_and]
theorem sized_ok {C : Ctx} (xs : List D) (a b : Int) : callB C 3 g_is_sized [.sh (.tuple xs), .sh (.int a), .sh (.int b)] = some (false, .bool (decide (a ≤ xs.length) && decide ((xs.length : Int) ≤ b)), []) := by
  unfold callB g_is_sized
  rw [show startE 3 [Ar.sh (.tuple xs), .sh (.int a), .sh (.int b)] = [.sh (.tuple xs), .sh (.int a), .sh (.int b)] from rfl]
  by_cases h1 : a ≤ (xs.length : Int)
  · simp only [q_v, q_con, q_glo, q_no, q_tup, q_lst, q_dnk, q_op2, q_neg, q_cmp, q_cmp2, q_and, q_or, q_not, q_ite, q_bi, q_lrng, q_mu, q_call, q_ix, q_sl, q_rev, q_lnil, q_lcons, q_rnil, q_rcons, q_fnil, q_fcons, q_anil, q_aval, q_aio, q_seq, q_rng1, q_rng2, q_zip, q_enm, q_T, q_sh, q_fr, q_pk, q_fsh, q_ffr, q_fpk, q_cnil, q_ccons, q_aanil, q_aash, q_aaio, q_gnil, q_gcons, q_pnm, q_pix, q_rsh, q_rfr, q_rpk, q_Nnil, q_Ncons, q_Pnil, q_Pcons, q_tsh, q_tfr, q_tpk, q_Sexpr, q_Sset, q_Spar, q_Sunp, q_Siff, q_Sret, q_SretN, q_Swipe, q_SSnil, q_SScons, q_at0, q_atS, q_wnil, q_wcons, q_bnm, q_btp, q_btl, q_snil, q_scons, q_comp, q_dcomp, q_onil, q_osh, q_oio, Option.bind_some, Option.map_some, Option.bind_none, Option.map_none, List.set_cons_zero, List.set_cons_succ, Tg.slots, muK, muF, if_true, Bool.false_eq_true, if_false, ix_0, ix_1, ix_2, ix_3, ix_4, ixt_0, ixt_1, sx_1, sx_2, sx_3, sx_4, eq_int, ne_int, lt_int, gt_int, le_int, ge_int, isin_ev, notin_ev, add_int, sub_int, pow_10_18, tr_bool, io_int, so_list, so_tup, len_list, len_tup, int_int, abs_int, tup_list, tup_tup, lst_list, lst_tup, apSlots, Bool.not_true, Bool.not_false, decide_true, decide_false, reduceIte, reduceCtorEq, Nat.reduceAdd, List.length_map, isi_tup, List.any_cons, List.any_nil, isTy, Bool.or_false, decide_eq_true h1, Bool.true_and]
  · simp only [q_v, q_con, q_glo, q_no, q_tup, q_lst, q_dnk, q_op2, q_neg, q_cmp, q_cmp2, q_and, q_or, q_not, q_ite, q_bi, q_lrng, q_mu, q_call, q_ix, q_sl, q_rev, q_lnil, q_lcons, q_rnil, q_rcons, q_fnil, q_fcons, q_anil, q_aval, q_aio, q_seq, q_rng1, q_rng2, q_zip, q_enm, q_T, q_sh, q_fr, q_pk, q_fsh, q_ffr, q_fpk, q_cnil, q_ccons, q_aanil, q_aash, q_aaio, q_gnil, q_gcons, q_pnm, q_pix, q_rsh, q_rfr, q_rpk, q_Nnil, q_Ncons, q_Pnil, q_Pcons, q_tsh, q_tfr, q_tpk, q_Sexpr, q_Sset, q_Spar, q_Sunp, q_Siff, q_Sret, q_SretN, q_Swipe, q_SSnil, q_SScons, q_at0, q_atS, q_wnil, q_wcons, q_bnm, q_btp, q_btl, q_snil, q_scons, q_comp, q_dcomp, q_onil, q_osh, q_oio, Option.bind_some, Option.map_some, Option.bind_none, Option.map_none, List.set_cons_zero, List.set_cons_succ, Tg.slots, muK, muF, if_true, Bool.false_eq_true, if_false, ix_0, ix_1, ix_2, ix_3, ix_4, ixt_0, ixt_1, sx_1, sx_2, sx_3, sx_4, eq_int, ne_int, lt_int, gt_int, le_int, ge_int, isin_ev, notin_ev, add_int, sub_int, pow_10_18, tr_bool, io_int, so_list, so_tup, len_list, len_tup, int_int, abs_int, tup_list, tup_tup, lst_list, lst_tup, apSlots, Bool.not_true, Bool.not_false, decide_true, decide_false, reduceIte, reduceCtorEq, Nat.reduceAdd, List.length_map, isi_tup, List.any_cons, List.any_nil, isTy, Bool.or_false, decide_eq_false h1, Bool.false_and]
def PairsOk (C : Ctx) (k : Nat) : Prop := ∀ (n : Nat) (ps : List PR), (∀ p ∈ ps, Wn n p) → C.cal k [.sh (.int n), .sh (.tuple (ps.map en))] = some (false, .bool true, [])
theorem all_true {α : Type} (xs : List α) : biEv .all [.list (xs.map fun _ => .bool true)] = some (.sh (.bool true)) := by
  rw [all_map (fun _ => true) xs]
  simp
theorem pairs_ok {C : Ctx} {i_is_sized i_is_within : Nat} (hs : SizedOk C i_is_sized) (hw : WithinOk C i_is_within) (n : Nat) (ps : List PR) (h : ∀ p ∈ ps, Wn n p) :
    callB C 4 (g_are_pairs i_is_sized i_is_within) [.sh (.int n), .sh (.tuple (ps.map en))] = some (false, .bool true, []) := by
  unfold callB g_are_pairs
  rw [show startE 4 [Ar.sh (.int n), .sh (.tuple (ps.map en))] = [.sh (.int n), .sh (.tuple (ps.map en)), .un, .un] from rfl]
  have c1 := comp_map (C := C) (elt := (.call i_is_sized (.val (.v 2) (.val (.con (.int 2)) (.val (.con (.int 2)) .nil))))) (tg := .nm 2) (it := .seq (.v 1)) (ifs := .nil) (ρ := [.sh (.int n), .sh (.tuple (ps.map en)), .un, .un]) (ρ1 := [.sh (.int n), .sh (.tuple (ps.map en)), .un, .un]) (as := ps) (T := en) (g := fun _ => .bool true) (by simp only [q_v, q_con, q_glo, q_no, q_tup, q_lst, q_dnk, q_op2, q_neg, q_cmp, q_cmp2, q_and, q_or, q_not, q_ite, q_bi, q_lrng, q_mu, q_call, q_ix, q_sl, q_rev, q_lnil, q_lcons, q_rnil, q_rcons, q_fnil, q_fcons, q_anil, q_aval, q_aio, q_seq, q_rng1, q_rng2, q_zip, q_enm, q_T, q_sh, q_fr, q_pk, q_fsh, q_ffr, q_fpk, q_cnil, q_ccons, q_aanil, q_aash, q_aaio, q_gnil, q_gcons, q_pnm, q_pix, q_rsh, q_rfr, q_rpk, q_Nnil, q_Ncons, q_Pnil, q_Pcons, q_tsh, q_tfr, q_tpk, q_Sexpr, q_Sset, q_Spar, q_Sunp, q_Siff, q_Sret, q_SretN, q_Swipe, q_SSnil, q_SScons, q_at0, q_atS, q_wnil, q_wcons, q_bnm, q_btp, q_btl, q_snil, q_scons, q_comp, q_dcomp, q_onil, q_osh, q_oio, Option.bind_some, Option.map_some, Option.bind_none, Option.map_none, List.set_cons_zero, List.set_cons_succ, Tg.slots, muK, muF, if_true, Bool.false_eq_true, if_false, ix_0, ix_1, ix_2, ix_3, ix_4, ixt_0, ixt_1, sx_1, sx_2, sx_3, sx_4, eq_int, ne_int, lt_int, gt_int, le_int, ge_int, isin_ev, notin_ev, add_int, sub_int, pow_10_18, tr_bool, io_int, so_list, so_tup, len_list, len_tup, int_int, abs_int, tup_list, tup_tup, lst_list, lst_tup, apSlots, Bool.not_true, Bool.not_false, decide_true, decide_false, reduceIte, reduceCtorEq, Nat.reduceAdd, List.length_map]) (fun p _ => by
    have := hs [.int p.1, .int p.2] 2 2
    rw [show (PyData.tuple [.int p.1, .int p.2]) = en p from rfl] at this
    simp only [q_v, q_con, q_glo, q_no, q_tup, q_lst, q_dnk, q_op2, q_neg, q_cmp, q_cmp2, q_and, q_or, q_not, q_ite, q_bi, q_lrng, q_mu, q_call, q_ix, q_sl, q_rev, q_lnil, q_lcons, q_rnil, q_rcons, q_fnil, q_fcons, q_anil, q_aval, q_aio, q_seq, q_rng1, q_rng2, q_zip, q_enm, q_T, q_sh, q_fr, q_pk, q_fsh, q_ffr, q_fpk, q_cnil, q_ccons, q_aanil, q_aash, q_aaio, q_gnil, q_gcons, q_pnm, q_pix, q_rsh, q_rfr, q_rpk, q_Nnil, q_Ncons, q_Pnil, q_Pcons, q_tsh, q_tfr, q_tpk, q_Sexpr, q_Sset, q_Spar, q_Sunp, q_Siff, q_Sret, q_SretN, q_Swipe, q_SSnil, q_SScons, q_at0, q_atS, q_wnil, q_wcons, q_bnm, q_btp, q_btl, q_snil, q_scons, q_comp, q_dcomp, q_onil, q_osh, q_oio, Option.bind_some, Option.map_some, Option.bind_none, Option.map_none, List.set_cons_zero, List.set_cons_succ, Tg.slots, muK, muF, if_true, Bool.false_eq_true, if_false, ix_0, ix_1, ix_2, ix_3, ix_4, ixt_0, ixt_1, sx_1, sx_2, sx_3, sx_4, eq_int, ne_int, lt_int, gt_int, le_int, ge_int, isin_ev, notin_ev, add_int, sub_int, pow_10_18, tr_bool, io_int, so_list, so_tup, len_list, len_tup, int_int, abs_int, tup_list, tup_tup, lst_list, lst_tup, apSlots, Bool.not_true, Bool.not_false, decide_true, decide_false, reduceIte, reduceCtorEq, Nat.reduceAdd, List.length_map, this, List.nodup_nil]
    rfl)
  have c2 := comp_map (C := C) (elt := (.bi .all (.cons (.comp (.call i_is_within (.val (.v 3) (.val (.con (.int 0)) (.val (.op2 .sub (.v 0) (.con (.int 1))) .nil)))) (.nm 3) (.seq (.v 2)) .nil) .nil))) (tg := .nm 2) (it := .seq (.v 1)) (ifs := .nil) (ρ := [.sh (.int n), .sh (.tuple (ps.map en)), .un, .un]) (ρ1 := [.sh (.int n), .sh (.tuple (ps.map en)), .un, .un]) (as := ps) (T := en) (g := fun _ => .bool true) (by simp only [q_v, q_con, q_glo, q_no, q_tup, q_lst, q_dnk, q_op2, q_neg, q_cmp, q_cmp2, q_and, q_or, q_not, q_ite, q_bi, q_lrng, q_mu, q_call, q_ix, q_sl, q_rev, q_lnil, q_lcons, q_rnil, q_rcons, q_fnil, q_fcons, q_anil, q_aval, q_aio, q_seq, q_rng1, q_rng2, q_zip, q_enm, q_T, q_sh, q_fr, q_pk, q_fsh, q_ffr, q_fpk, q_cnil, q_ccons, q_aanil, q_aash, q_aaio, q_gnil, q_gcons, q_pnm, q_pix, q_rsh, q_rfr, q_rpk, q_Nnil, q_Ncons, q_Pnil, q_Pcons, q_tsh, q_tfr, q_tpk, q_Sexpr, q_Sset, q_Spar, q_Sunp, q_Siff, q_Sret, q_SretN, q_Swipe, q_SSnil, q_SScons, q_at0, q_atS, q_wnil, q_wcons, q_bnm, q_btp, q_btl, q_snil, q_scons, q_comp, q_dcomp, q_onil, q_osh, q_oio, Option.bind_some, Option.map_some, Option.bind_none, Option.map_none, List.set_cons_zero, List.set_cons_succ, Tg.slots, muK, muF, if_true, Bool.false_eq_true, if_false, ix_0, ix_1, ix_2, ix_3, ix_4, ixt_0, ixt_1, sx_1, sx_2, sx_3, sx_4, eq_int, ne_int, lt_int, gt_int, le_int, ge_int, isin_ev, notin_ev, add_int, sub_int, pow_10_18, tr_bool, io_int, so_list, so_tup, len_list, len_tup, int_int, abs_int, tup_list, tup_tup, lst_list, lst_tup, apSlots, Bool.not_true, Bool.not_false, decide_true, decide_false, reduceIte, reduceCtorEq, Nat.reduceAdd, List.length_map]) (fun p hp => by
    have c3 := comp_map (C := C) (elt := (.call i_is_within (.val (.v 3) (.val (.con (.int 0)) (.val (.op2 .sub (.v 0) (.con (.int 1))) .nil))))) (tg := .nm 3) (it := .seq (.v 2)) (ifs := .nil) (ρ := [.sh (.int n), .sh (.tuple (ps.map en)), .sh (en p), .un]) (ρ1 := [.sh (.int n), .sh (.tuple (ps.map en)), .sh (en p), .un]) (as := [p.1, p.2]) (T := PyData.int) (g := fun _ => .bool true) (by
      rw [show en p = .tuple [.int p.1, .int p.2] from rfl]
      simp only [q_v, q_con, q_glo, q_no, q_tup, q_lst, q_dnk, q_op2, q_neg, q_cmp, q_cmp2, q_and, q_or, q_not, q_ite, q_bi, q_lrng, q_mu, q_call, q_ix, q_sl, q_rev, q_lnil, q_lcons, q_rnil, q_rcons, q_fnil, q_fcons, q_anil, q_aval, q_aio, q_seq, q_rng1, q_rng2, q_zip, q_enm, q_T, q_sh, q_fr, q_pk, q_fsh, q_ffr, q_fpk, q_cnil, q_ccons, q_aanil, q_aash, q_aaio, q_gnil, q_gcons, q_pnm, q_pix, q_rsh, q_rfr, q_rpk, q_Nnil, q_Ncons, q_Pnil, q_Pcons, q_tsh, q_tfr, q_tpk, q_Sexpr, q_Sset, q_Spar, q_Sunp, q_Siff, q_Sret, q_SretN, q_Swipe, q_SSnil, q_SScons, q_at0, q_atS, q_wnil, q_wcons, q_bnm, q_btp, q_btl, q_snil, q_scons, q_comp, q_dcomp, q_onil, q_osh, q_oio, Option.bind_some, Option.map_some, Option.bind_none, Option.map_none, List.set_cons_zero, List.set_cons_succ, Tg.slots, muK, muF, if_true, Bool.false_eq_true, if_false, ix_0, ix_1, ix_2, ix_3, ix_4, ixt_0, ixt_1, sx_1, sx_2, sx_3, sx_4, eq_int, ne_int, lt_int, gt_int, le_int, ge_int, isin_ev, notin_ev, add_int, sub_int, pow_10_18, tr_bool, io_int, so_list, so_tup, len_list, len_tup, int_int, abs_int, tup_list, tup_tup, lst_list, lst_tup, apSlots, Bool.not_true, Bool.not_false, decide_true, decide_false, reduceIte, reduceCtorEq, Nat.reduceAdd, List.length_map]
      rfl) (fun i hi => by
      obtain ⟨⟨w1, w2⟩, w3, w4⟩ := h p hp
      have hi2 : 0 ≤ i ∧ i ≤ (n : Int) - 1 := by
        simp only [List.mem_cons, List.not_mem_nil, or_false] at hi
        rcases hi with rfl | rfl <;> omega
      simp only [q_v, q_con, q_glo, q_no, q_tup, q_lst, q_dnk, q_op2, q_neg, q_cmp, q_cmp2, q_and, q_or, q_not, q_ite, q_bi, q_lrng, q_mu, q_call, q_ix, q_sl, q_rev, q_lnil, q_lcons, q_rnil, q_rcons, q_fnil, q_fcons, q_anil, q_aval, q_aio, q_seq, q_rng1, q_rng2, q_zip, q_enm, q_T, q_sh, q_fr, q_pk, q_fsh, q_ffr, q_fpk, q_cnil, q_ccons, q_aanil, q_aash, q_aaio, q_gnil, q_gcons, q_pnm, q_pix, q_rsh, q_rfr, q_rpk, q_Nnil, q_Ncons, q_Pnil, q_Pcons, q_tsh, q_tfr, q_tpk, q_Sexpr, q_Sset, q_Spar, q_Sunp, q_Siff, q_Sret, q_SretN, q_Swipe, q_SSnil, q_SScons, q_at0, q_atS, q_wnil, q_wcons, q_bnm, q_btp, q_btl, q_snil, q_scons, q_comp, q_dcomp, q_onil, q_osh, q_oio, Option.bind_some, Option.map_some, Option.bind_none, Option.map_none, List.set_cons_zero, List.set_cons_succ, Tg.slots, muK, muF, if_true, Bool.false_eq_true, if_false, ix_0, ix_1, ix_2, ix_3, ix_4, ixt_0, ixt_1, sx_1, sx_2, sx_3, sx_4, eq_int, ne_int, lt_int, gt_int, le_int, ge_int, isin_ev, notin_ev, add_int, sub_int, pow_10_18, tr_bool, io_int, so_list, so_tup, len_list, len_tup, int_int, abs_int, tup_list, tup_tup, lst_list, lst_tup, apSlots, Bool.not_true, Bool.not_false, decide_true, decide_false, reduceIte, reduceCtorEq, Nat.reduceAdd, List.length_map, hw i 0 (n - 1), List.nodup_nil, decide_eq_true hi2.1, decide_eq_true hi2.2, Bool.and_self])
    simp only [q_v, q_con, q_glo, q_no, q_tup, q_lst, q_dnk, q_op2, q_neg, q_cmp, q_cmp2, q_and, q_or, q_not, q_ite, q_bi, q_lrng, q_mu, q_call, q_ix, q_sl, q_rev, q_lnil, q_lcons, q_rnil, q_rcons, q_fnil, q_fcons, q_anil, q_aval, q_aio, q_seq, q_rng1, q_rng2, q_zip, q_enm, q_T, q_sh, q_fr, q_pk, q_fsh, q_ffr, q_fpk, q_cnil, q_ccons, q_aanil, q_aash, q_aaio, q_gnil, q_gcons, q_pnm, q_pix, q_rsh, q_rfr, q_rpk, q_Nnil, q_Ncons, q_Pnil, q_Pcons, q_tsh, q_tfr, q_tpk, q_Sexpr, q_Sset, q_Spar, q_Sunp, q_Siff, q_Sret, q_SretN, q_Swipe, q_SSnil, q_SScons, q_at0, q_atS, q_wnil, q_wcons, q_bnm, q_btp, q_btl, q_snil, q_scons, q_comp, q_dcomp, q_onil, q_osh, q_oio, Option.bind_some, Option.map_some, Option.bind_none, Option.map_none, List.set_cons_zero, List.set_cons_succ, Tg.slots, muK, muF, if_true, Bool.false_eq_true, if_false, ix_0, ix_1, ix_2, ix_3, ix_4, ixt_0, ixt_1, sx_1, sx_2, sx_3, sx_4, eq_int, ne_int, lt_int, gt_int, le_int, ge_int, isin_ev, notin_ev, add_int, sub_int, pow_10_18, tr_bool, io_int, so_list, so_tup, len_list, len_tup, int_int, abs_int, tup_list, tup_tup, lst_list, lst_tup, apSlots, Bool.not_true, Bool.not_false, decide_true, decide_false, reduceIte, reduceCtorEq, Nat.reduceAdd, List.length_map, c3, all_true])
  simp only [q_v, q_con, q_glo, q_no, q_tup, q_lst, q_dnk, q_op2, q_neg, q_cmp, q_cmp2, q_and, q_or, q_not, q_ite, q_bi, q_lrng, q_mu, q_call, q_ix, q_sl, q_rev, q_lnil, q_lcons, q_rnil, q_rcons, q_fnil, q_fcons, q_anil, q_aval, q_aio, q_seq, q_rng1, q_rng2, q_zip, q_enm, q_T, q_sh, q_fr, q_pk, q_fsh, q_ffr, q_fpk, q_cnil, q_ccons, q_aanil, q_aash, q_aaio, q_gnil, q_gcons, q_pnm, q_pix, q_rsh, q_rfr, q_rpk, q_Nnil, q_Ncons, q_Pnil, q_Pcons, q_tsh, q_tfr, q_tpk, q_Sexpr, q_Sset, q_Spar, q_Sunp, q_Siff, q_Sret, q_SretN, q_Swipe, q_SSnil, q_SScons, q_at0, q_atS, q_wnil, q_wcons, q_bnm, q_btp, q_btl, q_snil, q_scons, q_comp, q_dcomp, q_onil, q_osh, q_oio, Option.bind_some, Option.map_some, Option.bind_none, Option.map_none, List.set_cons_zero, List.set_cons_succ, Tg.slots, muK, muF, if_true, Bool.false_eq_true, if_false, ix_0, ix_1, ix_2, ix_3, ix_4, ixt_0, ixt_1, sx_1, sx_2, sx_3, sx_4, eq_int, ne_int, lt_int, gt_int, le_int, ge_int, isin_ev, notin_ev, add_int, sub_int, pow_10_18, tr_bool, io_int, so_list, so_tup, len_list, len_tup, int_int, abs_int, tup_list, tup_tup, lst_list, lst_tup, apSlots, Bool.not_true, Bool.not_false, decide_true, decide_false, reduceIte, reduceCtorEq, Nat.reduceAdd, List.length_map, isi_tup, List.any_cons, List.any_nil, isTy, Bool.or_false, c1, all_true, c2]
theorem any_false {α : Type} (xs : List α) : biEv .any [.list (xs.map fun _ => .bool false)] = some (.sh (.bool false)) := by
  rw [any_map (fun _ => false) xs]
  simp
theorem lt_en (p q : PR) : cmpEv .lt (en p) (en q) = some (DatumOrd.lt p q) := by
  have h1 := okD_enc (α := PR) (by decide) p
  have h2 := okD_enc (α := PR) (by decide) q
  have h3 := DatumOrd.alike p q
  have h4 := DatumOrd.alike q p
  have h5 := DatumOrd.lt_eq p q
  show ltEv (.tuple [.int p.1, .int p.2]) (.tuple [.int q.1, .int q.2]) = _
  unfold ltEv
  simp only
  rw [show okD (.tuple [.int p.1, .int p.2]) = true from h1, show okD (.tuple [.int q.1, .int q.2]) = true from h2, show alike (.tuple [.int p.1, .int p.2]) (.tuple [.int q.1, .int q.2]) = true from h3, show alike (.tuple [.int q.1, .int q.2]) (.tuple [.int p.1, .int p.2]) = true from h4]
  simp only [Bool.and_self, if_true]
  congr 1
theorem dget_en {α : Type} [DecidableEq α] [Datum α] {v : D} (q : α) : ∀ ps : List α, (dget (ps.map fun p => (Datum.toD p, v)) (Datum.toD q)).isSome = decide (q ∈ ps)
  | [] => by simp [dget]
  | p :: ps => by
    have ih := dget_en (v := v) q ps
    unfold dget at ih ⊢
    rw [List.map_cons, List.find?_cons, Datum.eqv]
    by_cases h : p = q
    · simp [h]
    · have : ¬ q = p := fun e => h e.symm
      simp only [h, decide_false, List.mem_cons, this, false_or]
      exact ih
theorem in_dict (a b : Int) (ps : List PR) (v : D) : inEv (.tuple [.int a, .int b]) (.dict (ps.map fun p => (en p, v))) = some (decide ((a, b) ∈ ps)) := by
  show (if keyOk (ps.map fun p => (en p, v)) (en (a, b)) = true then some (dget (ps.map fun p => (en p, v)) (en (a, b))).isSome else none) = _
  have hk : keyOk (ps.map fun p => (en p, v)) (en (a, b)) = true := by
    unfold keyOk
    rw [Bool.or_eq_true]
    right
    rw [Bool.and_eq_true]
    refine ⟨rfl, List.all_eq_true.mpr fun d hd => ?_⟩
    obtain ⟨p, _, rfl⟩ := List.mem_map.mp hd
    rfl
  rw [if_pos hk, show dget (ps.map fun p => (en p, v)) (en (a, b)) = dget (ps.map fun p => (Datum.toD p, v)) (Datum.toD (a, b)) from rfl, dget_en]
  congr
theorem sl_tup1 (xs : List D) : slEv (.tuple xs) (.int 1) .none = some (.sh (.tuple (xs.drop 1))) := by
  have := cut_from xs 1
  show some (RV.sh (.tuple (cutD xs (some 1) none))) = _
  have h2 : some (RV.fr (.list (cutD xs (some ((1 : Nat) : Int)) none))) = some (RV.fr (.list (xs.drop 1))) := this
  injection h2 with h3
  injection h3 with h4
  injection h4 with h5
  rw [show (some (1 : Int)) = some ((1 : Nat) : Int) from rfl, h5]
theorem IsOrd.nd {n : Nat} {ps : List PR} (h : IsOrd n ps) : ps.Nodup := h.st.imp fun {a b} q e => by subst e; rw [LO.ir] at q; cases q
theorem order_t {C : Ctx} {i_is_sized i_is_within i_are_pairs : Nat} (hs : SizedOk C i_is_sized) (hw : WithinOk C i_is_within) (hp : PairsOk C i_are_pairs) {n : Nat} {ps : List PR} (h1 : 1 ≤ n) (h2 : n ≤ 7) (ho : IsOrd n ps) :
    callB C 11 (g_is_order i_is_sized i_is_within i_are_pairs) [.sh (ordD n ps)] = some (false, .bool true, []) := by
  unfold callB g_is_order
  rw [show startE 11 [Ar.sh (ordD n ps)] = [.sh (.tuple [.int n, .tuple (ps.map en)]), .un, .un, .un, .un, .un, .un, .un, .un, .un, .un] from rfl]
  have s1 : C.cal i_is_sized [.sh (.tuple [.int n, .tuple (ps.map en)]), .sh (.int 2), .sh (.int 2)] = some (false, .bool true, []) := hs [.int n, .tuple (ps.map en)] 2 2
  have w1 := hw n 1 8
  rw [decide_eq_true (show (1 : Int) ≤ n by omega), decide_eq_true (show (n : Int) ≤ 8 by omega)] at w1
  have p1 := hp n ps ho.wn
  have few : ps.length ≤ 49 := Nat.le_trans (pairs_few ho.nd ho.wn) (Nat.mul_le_mul h2 h2)
  have hz : evI C ((.zip (.v 3) (.sl (.v 3) (.con (.int 1)) .no))) [.sh (.tuple [.int n, .tuple (ps.map en)]), .un, .sh (.int n), .sh (.tuple (ps.map en)), .un, .un, .un, .un, .un, .un, .un] = some ((ps.zip (ps.drop 1)).map (fun q => .tuple [en q.1, en q.2]), [.sh (.tuple [.int n, .tuple (ps.map en)]), .un, .sh (.int n), .sh (.tuple (ps.map en)), .un, .un, .un, .un, .un, .un, .un]) := by
    simp only [q_v, q_con, q_glo, q_no, q_tup, q_lst, q_dnk, q_op2, q_neg, q_cmp, q_cmp2, q_and, q_or, q_not, q_ite, q_bi, q_lrng, q_mu, q_call, q_ix, q_sl, q_rev, q_lnil, q_lcons, q_rnil, q_rcons, q_fnil, q_fcons, q_anil, q_aval, q_aio, q_seq, q_rng1, q_rng2, q_zip, q_enm, q_T, q_sh, q_fr, q_pk, q_fsh, q_ffr, q_fpk, q_cnil, q_ccons, q_aanil, q_aash, q_aaio, q_gnil, q_gcons, q_pnm, q_pix, q_rsh, q_rfr, q_rpk, q_Nnil, q_Ncons, q_Pnil, q_Pcons, q_tsh, q_tfr, q_tpk, q_Sexpr, q_Sset, q_Spar, q_Sunp, q_Siff, q_Sret, q_SretN, q_Swipe, q_SSnil, q_SScons, q_at0, q_atS, q_wnil, q_wcons, q_bnm, q_btp, q_btl, q_snil, q_scons, q_comp, q_dcomp, q_onil, q_osh, q_oio, Option.bind_some, Option.map_some, Option.bind_none, Option.map_none, List.set_cons_zero, List.set_cons_succ, Tg.slots, muK, muF, if_true, Bool.false_eq_true, if_false, ix_0, ix_1, ix_2, ix_3, ix_4, ixt_0, ixt_1, sx_1, sx_2, sx_3, sx_4, eq_int, ne_int, lt_int, gt_int, le_int, ge_int, isin_ev, notin_ev, add_int, sub_int, pow_10_18, tr_bool, io_int, so_list, so_tup, len_list, len_tup, int_int, abs_int, tup_list, tup_tup, lst_list, lst_tup, apSlots, Bool.not_true, Bool.not_false, decide_true, decide_false, reduceIte, reduceCtorEq, Nat.reduceAdd, List.length_map, sl_tup1, zipEv]
    congr 2
    rw [← List.map_drop, List.zipWith_map, List.map_zip_eq_zipWith]
    rfl
  have c1 := comp_map (C := C) (elt := (.cmp .lt (.v 7) (.v 8))) (tg := .tp [7, 8]) (ifs := .nil) hz (g := fun _ => .bool true) (fun q hq => by
    have lt : DatumOrd.lt q.1 q.2 = true := by
      obtain ⟨i, hi, e⟩ := List.mem_iff_getElem.mp hq
      rw [List.getElem_zip] at e
      subst e
      rw [List.length_zip, List.length_drop] at hi
      simp only [List.getElem_drop]
      exact List.pairwise_iff_getElem.mp ho.st _ _ _ _ (by omega)
    simp only [q_v, q_con, q_glo, q_no, q_tup, q_lst, q_dnk, q_op2, q_neg, q_cmp, q_cmp2, q_and, q_or, q_not, q_ite, q_bi, q_lrng, q_mu, q_call, q_ix, q_sl, q_rev, q_lnil, q_lcons, q_rnil, q_rcons, q_fnil, q_fcons, q_anil, q_aval, q_aio, q_seq, q_rng1, q_rng2, q_zip, q_enm, q_T, q_sh, q_fr, q_pk, q_fsh, q_ffr, q_fpk, q_cnil, q_ccons, q_aanil, q_aash, q_aaio, q_gnil, q_gcons, q_pnm, q_pix, q_rsh, q_rfr, q_rpk, q_Nnil, q_Ncons, q_Pnil, q_Pcons, q_tsh, q_tfr, q_tpk, q_Sexpr, q_Sset, q_Spar, q_Sunp, q_Siff, q_Sret, q_SretN, q_Swipe, q_SSnil, q_SScons, q_at0, q_atS, q_wnil, q_wcons, q_bnm, q_btp, q_btl, q_snil, q_scons, q_comp, q_dcomp, q_onil, q_osh, q_oio, Option.bind_some, Option.map_some, Option.bind_none, Option.map_none, List.set_cons_zero, List.set_cons_succ, Tg.slots, muK, muF, if_true, Bool.false_eq_true, if_false, ix_0, ix_1, ix_2, ix_3, ix_4, ixt_0, ixt_1, sx_1, sx_2, sx_3, sx_4, eq_int, ne_int, lt_int, gt_int, le_int, ge_int, isin_ev, notin_ev, add_int, sub_int, pow_10_18, tr_bool, io_int, so_list, so_tup, len_list, len_tup, int_int, abs_int, tup_list, tup_tup, lst_list, lst_tup, apSlots, Bool.not_true, Bool.not_false, decide_true, decide_false, reduceIte, reduceCtorEq, Nat.reduceAdd, List.length_map, lt_en, lt])
  have c2 := dcomp_map (C := C) (k := .v 6) (v := .con (.bool true)) (tg := .nm 6) (it := .seq (.v 3)) (ifs := .nil) (ρ := [.sh (.tuple [.int n, .tuple (ps.map en)]), .un, .sh (.int n), .sh (.tuple (ps.map en)), .un, .un, .un, .un, .un, .un, .un]) (ρ1 := [.sh (.tuple [.int n, .tuple (ps.map en)]), .un, .sh (.int n), .sh (.tuple (ps.map en)), .un, .un, .un, .un, .un, .un, .un])
    (as := ps) (T := en) (g := en) (w := fun _ => .bool true) (by simp only [q_v, q_con, q_glo, q_no, q_tup, q_lst, q_dnk, q_op2, q_neg, q_cmp, q_cmp2, q_and, q_or, q_not, q_ite, q_bi, q_lrng, q_mu, q_call, q_ix, q_sl, q_rev, q_lnil, q_lcons, q_rnil, q_rcons, q_fnil, q_fcons, q_anil, q_aval, q_aio, q_seq, q_rng1, q_rng2, q_zip, q_enm, q_T, q_sh, q_fr, q_pk, q_fsh, q_ffr, q_fpk, q_cnil, q_ccons, q_aanil, q_aash, q_aaio, q_gnil, q_gcons, q_pnm, q_pix, q_rsh, q_rfr, q_rpk, q_Nnil, q_Ncons, q_Pnil, q_Pcons, q_tsh, q_tfr, q_tpk, q_Sexpr, q_Sset, q_Spar, q_Sunp, q_Siff, q_Sret, q_SretN, q_Swipe, q_SSnil, q_SScons, q_at0, q_atS, q_wnil, q_wcons, q_bnm, q_btp, q_btl, q_snil, q_scons, q_comp, q_dcomp, q_onil, q_osh, q_oio, Option.bind_some, Option.map_some, Option.bind_none, Option.map_none, List.set_cons_zero, List.set_cons_succ, Tg.slots, muK, muF, if_true, Bool.false_eq_true, if_false, ix_0, ix_1, ix_2, ix_3, ix_4, ixt_0, ixt_1, sx_1, sx_2, sx_3, sx_4, eq_int, ne_int, lt_int, gt_int, le_int, ge_int, isin_ev, notin_ev, add_int, sub_int, pow_10_18, tr_bool, io_int, so_list, so_tup, len_list, len_tup, int_int, abs_int, tup_list, tup_tup, lst_list, lst_tup, apSlots, Bool.not_true, Bool.not_false, decide_true, decide_false, reduceIte, reduceCtorEq, Nat.reduceAdd, List.length_map]) (tup_kind ps) (fun p _ => by simp only [q_v, q_con, q_glo, q_no, q_tup, q_lst, q_dnk, q_op2, q_neg, q_cmp, q_cmp2, q_and, q_or, q_not, q_ite, q_bi, q_lrng, q_mu, q_call, q_ix, q_sl, q_rev, q_lnil, q_lcons, q_rnil, q_rcons, q_fnil, q_fcons, q_anil, q_aval, q_aio, q_seq, q_rng1, q_rng2, q_zip, q_enm, q_T, q_sh, q_fr, q_pk, q_fsh, q_ffr, q_fpk, q_cnil, q_ccons, q_aanil, q_aash, q_aaio, q_gnil, q_gcons, q_pnm, q_pix, q_rsh, q_rfr, q_rpk, q_Nnil, q_Ncons, q_Pnil, q_Pcons, q_tsh, q_tfr, q_tpk, q_Sexpr, q_Sset, q_Spar, q_Sunp, q_Siff, q_Sret, q_SretN, q_Swipe, q_SSnil, q_SScons, q_at0, q_atS, q_wnil, q_wcons, q_bnm, q_btp, q_btl, q_snil, q_scons, q_comp, q_dcomp, q_onil, q_osh, q_oio, Option.bind_some, Option.map_some, Option.bind_none, Option.map_none, List.set_cons_zero, List.set_cons_succ, Tg.slots, muK, muF, if_true, Bool.false_eq_true, if_false, ix_0, ix_1, ix_2, ix_3, ix_4, ixt_0, ixt_1, sx_1, sx_2, sx_3, sx_4, eq_int, ne_int, lt_int, gt_int, le_int, ge_int, isin_ev, notin_ev, add_int, sub_int, pow_10_18, tr_bool, io_int, so_list, so_tup, len_list, len_tup, int_int, abs_int, tup_list, tup_tup, lst_list, lst_tup, apSlots, Bool.not_true, Bool.not_false, decide_true, decide_false, reduceIte, reduceCtorEq, Nat.reduceAdd, List.length_map])
  have dm : dmerge [] (ps.map fun p => (en p, PyData.bool true)) = ps.map fun p => (en p, PyData.bool true) := by
    have := dmerge_nodup (v := PyData.bool true) (ms := ps) (ks := []) (by simpa using ho.nd)
    rw [List.nil_append] at this
    exact this
  rw [dm] at c2
  have hf : evI C (.seq (.v 3)) [.sh (.tuple [.int n, .tuple (ps.map en)]), .ow none (.dict (ps.map fun p => (en p, .bool true))), .sh (.int n), .sh (.tuple (ps.map en)), .un, .un, .un, .un, .un, .un, .un] = some (ps.map en, [.sh (.tuple [.int n, .tuple (ps.map en)]), .ow none (.dict (ps.map fun p => (en p, .bool true))), .sh (.int n), .sh (.tuple (ps.map en)), .un, .un, .un, .un, .un, .un, .un]) := by simp only [q_v, q_con, q_glo, q_no, q_tup, q_lst, q_dnk, q_op2, q_neg, q_cmp, q_cmp2, q_and, q_or, q_not, q_ite, q_bi, q_lrng, q_mu, q_call, q_ix, q_sl, q_rev, q_lnil, q_lcons, q_rnil, q_rcons, q_fnil, q_fcons, q_anil, q_aval, q_aio, q_seq, q_rng1, q_rng2, q_zip, q_enm, q_T, q_sh, q_fr, q_pk, q_fsh, q_ffr, q_fpk, q_cnil, q_ccons, q_aanil, q_aash, q_aaio, q_gnil, q_gcons, q_pnm, q_pix, q_rsh, q_rfr, q_rpk, q_Nnil, q_Ncons, q_Pnil, q_Pcons, q_tsh, q_tfr, q_tpk, q_Sexpr, q_Sset, q_Spar, q_Sunp, q_Siff, q_Sret, q_SretN, q_Swipe, q_SSnil, q_SScons, q_at0, q_atS, q_wnil, q_wcons, q_bnm, q_btp, q_btl, q_snil, q_scons, q_comp, q_dcomp, q_onil, q_osh, q_oio, Option.bind_some, Option.map_some, Option.bind_none, Option.map_none, List.set_cons_zero, List.set_cons_succ, Tg.slots, muK, muF, if_true, Bool.false_eq_true, if_false, ix_0, ix_1, ix_2, ix_3, ix_4, ixt_0, ixt_1, sx_1, sx_2, sx_3, sx_4, eq_int, ne_int, lt_int, gt_int, le_int, ge_int, isin_ev, notin_ev, add_int, sub_int, pow_10_18, tr_bool, io_int, so_list, so_tup, len_list, len_tup, int_int, abs_int, tup_list, tup_tup, lst_list, lst_tup, apSlots, Bool.not_true, Bool.not_false, decide_true, decide_false, reduceIte, reduceCtorEq, Nat.reduceAdd, List.length_map]
  have w := for_go (C := C) (tg := .tp [4, 5]) (body := (.cons (.iff (.or (.cmp .eq (.v 4) (.v 5)) (.or (.cmp .isin (.tup (.cons (.v 5) (.cons (.v 4) .nil))) (.v 1)) (.bi .any (.cons (.comp (.cmp .notin (.tup (.cons (.v 4) (.cons (.v 10) .nil))) (.v 1)) (.tp [9, 10]) (.seq (.v 3)) (.cons (.cmp .eq (.v 9) (.v 5)) .nil)) .nil)))) (.cons (.ret (.con (.bool false))) .nil) .nil) (.cons (.wipe [4, 5]) .nil))) hf (fun _ ρ => ρ = [.sh (.tuple [.int n, .tuple (ps.map en)]), .ow none (.dict (ps.map fun p => (en p, .bool true))), .sh (.int n), .sh (.tuple (ps.map en)), .un, .un, .un, .un, .un, .un, .un]) rfl (fun i p ρ2 hi hI => ?_)
  · obtain ⟨ρ2, e2, rfl⟩ := w
    rw [show ordD n ps = .tuple [.int n, .tuple (ps.map en)] from rfl] at *
    have e56 : ¬ ((56 : Int) < (ps.length : Int)) := by omega
    simp only [q_v, q_con, q_glo, q_no, q_tup, q_lst, q_dnk, q_op2, q_neg, q_cmp, q_cmp2, q_and, q_or, q_not, q_ite, q_bi, q_lrng, q_mu, q_call, q_ix, q_sl, q_rev, q_lnil, q_lcons, q_rnil, q_rcons, q_fnil, q_fcons, q_anil, q_aval, q_aio, q_seq, q_rng1, q_rng2, q_zip, q_enm, q_T, q_sh, q_fr, q_pk, q_fsh, q_ffr, q_fpk, q_cnil, q_ccons, q_aanil, q_aash, q_aaio, q_gnil, q_gcons, q_pnm, q_pix, q_rsh, q_rfr, q_rpk, q_Nnil, q_Ncons, q_Pnil, q_Pcons, q_tsh, q_tfr, q_tpk, q_Sexpr, q_Sset, q_Spar, q_Sunp, q_Siff, q_Sret, q_SretN, q_Swipe, q_SSnil, q_SScons, q_at0, q_atS, q_wnil, q_wcons, q_bnm, q_btp, q_btl, q_snil, q_scons, q_comp, q_dcomp, q_onil, q_osh, q_oio, Option.bind_some, Option.map_some, Option.bind_none, Option.map_none, List.set_cons_zero, List.set_cons_succ, Tg.slots, muK, muF, if_true, Bool.false_eq_true, if_false, ix_0, ix_1, ix_2, ix_3, ix_4, ixt_0, ixt_1, sx_1, sx_2, sx_3, sx_4, eq_int, ne_int, lt_int, gt_int, le_int, ge_int, isin_ev, notin_ev, add_int, sub_int, pow_10_18, tr_bool, io_int, so_list, so_tup, len_list, len_tup, int_int, abs_int, tup_list, tup_tup, lst_list, lst_tup, apSlots, Bool.not_true, Bool.not_false, decide_true, decide_false, reduceIte, reduceCtorEq, Nat.reduceAdd, List.length_map, s1, w1, p1, List.nodup_nil, List.length_cons, List.length_nil, Bool.and_self, Int.reduceLE, c1, all_true, c2, e2, decide_eq_false e56]
  · subst hI
    have hpm := List.mem_of_getElem? hi
    obtain ⟨a, b⟩ := p
    have n1 : ¬ a = b := ho.ir _ hpm
    have n2 := ho.as a b hpm
    have c3 := comp_filter (C := C) (elt := (.cmp .notin (.tup (.cons (.v 4) (.cons (.v 10) .nil))) (.v 1))) (tg := .tp [9, 10]) (it := .seq (.v 3)) (ifs := (.cons (.cmp .eq (.v 9) (.v 5)) .nil)) (ρ := [.sh (.tuple [.int n, .tuple (ps.map en)]), .ow none (.dict (ps.map fun p => (en p, .bool true))), .sh (.int n), .sh (.tuple (ps.map en)), .sh (.int a), .sh (.int b), .un, .un, .un, .un, .un])
      (ρ1 := [.sh (.tuple [.int n, .tuple (ps.map en)]), .ow none (.dict (ps.map fun p => (en p, .bool true))), .sh (.int n), .sh (.tuple (ps.map en)), .sh (.int a), .sh (.int b), .un, .un, .un, .un, .un]) (as := ps) (T := en) (g := fun _ => .bool false) (p := fun p => decide (p.1 = b)) (by simp only [q_v, q_con, q_glo, q_no, q_tup, q_lst, q_dnk, q_op2, q_neg, q_cmp, q_cmp2, q_and, q_or, q_not, q_ite, q_bi, q_lrng, q_mu, q_call, q_ix, q_sl, q_rev, q_lnil, q_lcons, q_rnil, q_rcons, q_fnil, q_fcons, q_anil, q_aval, q_aio, q_seq, q_rng1, q_rng2, q_zip, q_enm, q_T, q_sh, q_fr, q_pk, q_fsh, q_ffr, q_fpk, q_cnil, q_ccons, q_aanil, q_aash, q_aaio, q_gnil, q_gcons, q_pnm, q_pix, q_rsh, q_rfr, q_rpk, q_Nnil, q_Ncons, q_Pnil, q_Pcons, q_tsh, q_tfr, q_tpk, q_Sexpr, q_Sset, q_Spar, q_Sunp, q_Siff, q_Sret, q_SretN, q_Swipe, q_SSnil, q_SScons, q_at0, q_atS, q_wnil, q_wcons, q_bnm, q_btp, q_btl, q_snil, q_scons, q_comp, q_dcomp, q_onil, q_osh, q_oio, Option.bind_some, Option.map_some, Option.bind_none, Option.map_none, List.set_cons_zero, List.set_cons_succ, Tg.slots, muK, muF, if_true, Bool.false_eq_true, if_false, ix_0, ix_1, ix_2, ix_3, ix_4, ixt_0, ixt_1, sx_1, sx_2, sx_3, sx_4, eq_int, ne_int, lt_int, gt_int, le_int, ge_int, isin_ev, notin_ev, add_int, sub_int, pow_10_18, tr_bool, io_int, so_list, so_tup, len_list, len_tup, int_int, abs_int, tup_list, tup_tup, lst_list, lst_tup, apSlots, Bool.not_true, Bool.not_false, decide_true, decide_false, reduceIte, reduceCtorEq, Nat.reduceAdd, List.length_map]) (fun p hp => by
      obtain ⟨d, c⟩ := p
      rw [en_eq]
      by_cases hd : d = b
      · subst hd
        simp only [q_v, q_con, q_glo, q_no, q_tup, q_lst, q_dnk, q_op2, q_neg, q_cmp, q_cmp2, q_and, q_or, q_not, q_ite, q_bi, q_lrng, q_mu, q_call, q_ix, q_sl, q_rev, q_lnil, q_lcons, q_rnil, q_rcons, q_fnil, q_fcons, q_anil, q_aval, q_aio, q_seq, q_rng1, q_rng2, q_zip, q_enm, q_T, q_sh, q_fr, q_pk, q_fsh, q_ffr, q_fpk, q_cnil, q_ccons, q_aanil, q_aash, q_aaio, q_gnil, q_gcons, q_pnm, q_pix, q_rsh, q_rfr, q_rpk, q_Nnil, q_Ncons, q_Pnil, q_Pcons, q_tsh, q_tfr, q_tpk, q_Sexpr, q_Sset, q_Spar, q_Sunp, q_Siff, q_Sret, q_SretN, q_Swipe, q_SSnil, q_SScons, q_at0, q_atS, q_wnil, q_wcons, q_bnm, q_btp, q_btl, q_snil, q_scons, q_comp, q_dcomp, q_onil, q_osh, q_oio, Option.bind_some, Option.map_some, Option.bind_none, Option.map_none, List.set_cons_zero, List.set_cons_succ, Tg.slots, muK, muF, if_true, Bool.false_eq_true, if_false, ix_0, ix_1, ix_2, ix_3, ix_4, ixt_0, ixt_1, sx_1, sx_2, sx_3, sx_4, eq_int, ne_int, lt_int, gt_int, le_int, ge_int, isin_ev, notin_ev, add_int, sub_int, pow_10_18, tr_bool, io_int, so_list, so_tup, len_list, len_tup, int_int, abs_int, tup_list, tup_tup, lst_list, lst_tup, apSlots, Bool.not_true, Bool.not_false, decide_true, decide_false, reduceIte, reduceCtorEq, Nat.reduceAdd, List.length_map, in_dict, decide_eq_true (ho.tr a d c hpm hp)]
      · simp only [q_v, q_con, q_glo, q_no, q_tup, q_lst, q_dnk, q_op2, q_neg, q_cmp, q_cmp2, q_and, q_or, q_not, q_ite, q_bi, q_lrng, q_mu, q_call, q_ix, q_sl, q_rev, q_lnil, q_lcons, q_rnil, q_rcons, q_fnil, q_fcons, q_anil, q_aval, q_aio, q_seq, q_rng1, q_rng2, q_zip, q_enm, q_T, q_sh, q_fr, q_pk, q_fsh, q_ffr, q_fpk, q_cnil, q_ccons, q_aanil, q_aash, q_aaio, q_gnil, q_gcons, q_pnm, q_pix, q_rsh, q_rfr, q_rpk, q_Nnil, q_Ncons, q_Pnil, q_Pcons, q_tsh, q_tfr, q_tpk, q_Sexpr, q_Sset, q_Spar, q_Sunp, q_Siff, q_Sret, q_SretN, q_Swipe, q_SSnil, q_SScons, q_at0, q_atS, q_wnil, q_wcons, q_bnm, q_btp, q_btl, q_snil, q_scons, q_comp, q_dcomp, q_onil, q_osh, q_oio, Option.bind_some, Option.map_some, Option.bind_none, Option.map_none, List.set_cons_zero, List.set_cons_succ, Tg.slots, muK, muF, if_true, Bool.false_eq_true, if_false, ix_0, ix_1, ix_2, ix_3, ix_4, ixt_0, ixt_1, sx_1, sx_2, sx_3, sx_4, eq_int, ne_int, lt_int, gt_int, le_int, ge_int, isin_ev, notin_ev, add_int, sub_int, pow_10_18, tr_bool, io_int, so_list, so_tup, len_list, len_tup, int_int, abs_int, tup_list, tup_tup, lst_list, lst_tup, apSlots, Bool.not_true, Bool.not_false, decide_true, decide_false, reduceIte, reduceCtorEq, Nat.reduceAdd, List.length_map, decide_eq_false hd])
    refine ⟨_, ?_, rfl⟩
    rw [en_eq]
    simp only [q_v, q_con, q_glo, q_no, q_tup, q_lst, q_dnk, q_op2, q_neg, q_cmp, q_cmp2, q_and, q_or, q_not, q_ite, q_bi, q_lrng, q_mu, q_call, q_ix, q_sl, q_rev, q_lnil, q_lcons, q_rnil, q_rcons, q_fnil, q_fcons, q_anil, q_aval, q_aio, q_seq, q_rng1, q_rng2, q_zip, q_enm, q_T, q_sh, q_fr, q_pk, q_fsh, q_ffr, q_fpk, q_cnil, q_ccons, q_aanil, q_aash, q_aaio, q_gnil, q_gcons, q_pnm, q_pix, q_rsh, q_rfr, q_rpk, q_Nnil, q_Ncons, q_Pnil, q_Pcons, q_tsh, q_tfr, q_tpk, q_Sexpr, q_Sset, q_Spar, q_Sunp, q_Siff, q_Sret, q_SretN, q_Swipe, q_SSnil, q_SScons, q_at0, q_atS, q_wnil, q_wcons, q_bnm, q_btp, q_btl, q_snil, q_scons, q_comp, q_dcomp, q_onil, q_osh, q_oio, Option.bind_some, Option.map_some, Option.bind_none, Option.map_none, List.set_cons_zero, List.set_cons_succ, Tg.slots, muK, muF, if_true, Bool.false_eq_true, if_false, ix_0, ix_1, ix_2, ix_3, ix_4, ixt_0, ixt_1, sx_1, sx_2, sx_3, sx_4, eq_int, ne_int, lt_int, gt_int, le_int, ge_int, isin_ev, notin_ev, add_int, sub_int, pow_10_18, tr_bool, io_int, so_list, so_tup, len_list, len_tup, int_int, abs_int, tup_list, tup_tup, lst_list, lst_tup, apSlots, Bool.not_true, Bool.not_false, decide_true, decide_false, reduceIte, reduceCtorEq, Nat.reduceAdd, List.length_map, decide_eq_false n1, in_dict, decide_eq_false n2, c3, any_false]

def ChkOk (C : Ctx) (k : Nat) : Prop := ∀ (n : Nat) (ps : List PR), 1 ≤ n → n ≤ 7 → IsOrd n ps → C.cal k [.sh (ordD n ps)] = some (false, .none, [])
def OrdTOk (C : Ctx) (k : Nat) : Prop := ∀ (n : Nat) (ps : List PR), 1 ≤ n → n ≤ 7 → IsOrd n ps → C.cal k [.sh (ordD n ps)] = some (false, .bool true, [])
theorem check_ok {C : Ctx} {i_is_order : Nat} (h : OrdTOk C i_is_order) {n : Nat} {ps : List PR} (h1 : 1 ≤ n) (h2 : n ≤ 7) (ho : IsOrd n ps) : callB C 1 (g_check_order i_is_order) [.sh (ordD n ps)] = some (false, .none, []) := by
  unfold callB g_check_order
  rw [show startE 1 [Ar.sh (ordD n ps)] = [.sh (ordD n ps)] from rfl]
  simp only [q_v, q_con, q_glo, q_no, q_tup, q_lst, q_dnk, q_op2, q_neg, q_cmp, q_cmp2, q_and, q_or, q_not, q_ite, q_bi, q_lrng, q_mu, q_call, q_ix, q_sl, q_rev, q_lnil, q_lcons, q_rnil, q_rcons, q_fnil, q_fcons, q_anil, q_aval, q_aio, q_seq, q_rng1, q_rng2, q_zip, q_enm, q_T, q_sh, q_fr, q_pk, q_fsh, q_ffr, q_fpk, q_cnil, q_ccons, q_aanil, q_aash, q_aaio, q_gnil, q_gcons, q_pnm, q_pix, q_rsh, q_rfr, q_rpk, q_Nnil, q_Ncons, q_Pnil, q_Pcons, q_tsh, q_tfr, q_tpk, q_Sexpr, q_Sset, q_Spar, q_Sunp, q_Siff, q_Sret, q_SretN, q_Swipe, q_SSnil, q_SScons, q_at0, q_atS, q_wnil, q_wcons, q_bnm, q_btp, q_btl, q_snil, q_scons, q_comp, q_dcomp, q_onil, q_osh, q_oio, Option.bind_some, Option.map_some, Option.bind_none, Option.map_none, List.set_cons_zero, List.set_cons_succ, Tg.slots, muK, muF, if_true, Bool.false_eq_true, if_false, ix_0, ix_1, ix_2, ix_3, ix_4, ixt_0, ixt_1, sx_1, sx_2, sx_3, sx_4, eq_int, ne_int, lt_int, gt_int, le_int, ge_int, isin_ev, notin_ev, add_int, sub_int, pow_10_18, tr_bool, io_int, so_list, so_tup, len_list, len_tup, int_int, abs_int, tup_list, tup_tup, lst_list, lst_tup, apSlots, Bool.not_true, Bool.not_false, decide_true, decide_false, reduceIte, reduceCtorEq, Nat.reduceAdd, List.length_map, h n ps h1 h2 ho, List.nodup_nil]
end PI

set_option Elab.async false
set_option linter.all false
set_option maxRecDepth 100000
set_option maxHeartbeats 4000000
/-! QF: lots of points. -/
namespace PI
set_option autoImplicit false
open PySem PySem.W
def g_all_lots : Ss := (.cons (.set (.nm 1) (.lst .nil)) (.cons (.for (.nm 2) (.rng1 (.op2 .shl (.con (.int 1)) (.v 0))) (.cons (.expr (.mu .append 1 (.cons (.bi .tup (.cons (.comp (.v 3) (.nm 3) (.rng1 (.v 0)) (.cons (.cmp .eq (.op2 .band (.op2 .shr (.v 2) (.v 3)) (.con (.int 1))) (.con (.int 1))) .nil)) .nil)) .nil))) (.cons (.wipe [2]) .nil))) (.cons (.ret (.bi .srt (.cons (.v 1) .nil))) .nil)))
def g_is_closed : Ss := (.cons (.ret (.not (.bi .any (.cons (.comp (.and (.cmp .isin (.v 3) (.v 1)) (.cmp .notin (.v 2) (.v 1))) (.tp [2, 3]) (.seq (.ix (.v 0) (.con (.int 1)))) .nil) .nil)))) .nil)
def g_closed_lots (i_all_lots i_is_closed : Nat) : Ss := (.cons (.ret (.comp (.v 1) (.nm 1) (.seq (.call i_all_lots (.val (.ix (.v 0) (.con (.int 0))) .nil))) (.cons (.call i_is_closed (.val (.v 0) (.val (.v 1) .nil))) .nil))) .nil)
def g_law_lots : Ss := (.cons (.set (.nm 1) (.lst (.cons (.tup .nil) .nil))) (.cons (.for (.nm 2) (.rng1 (.v 0)) (.cons (.set (.nm 1) (.op2 .add (.v 1) (.comp (.op2 .add (.v 4) (.tup (.cons (.v 2) .nil))) (.nm 4) (.seq (.v 1)) .nil))) (.cons (.wipe [2]) .nil))) (.cons (.ret (.comp (.v 4) (.tp [3, 4]) (.seq (.bi .srt (.cons (.comp (.tup (.cons (.bi .len (.cons (.v 4) .nil)) (.cons (.v 4) .nil))) (.nm 4) (.seq (.v 1)) .nil) .nil))) .nil)) .nil)))
def g_law_closed (i_law_lots : Nat) : Ss := (.cons (.set (.nm 1) (.lst .nil)) (.cons (.for (.nm 2) (.seq (.call i_law_lots (.val (.ix (.v 0) (.con (.int 0))) .nil))) (.cons (.iff (.bi .all (.cons (.comp (.cmp .isin (.v 3) (.v 2)) (.tp [3, 4]) (.seq (.ix (.v 0) (.con (.int 1)))) (.cons (.cmp .isin (.v 4) (.v 2)) .nil)) .nil)) (.cons (.expr (.mu .append 1 (.cons (.v 2) .nil))) .nil) .nil) (.cons (.wipe [2]) .nil))) (.cons (.ret (.v 1)) .nil)))
def g_weight_of : Ss := (.cons (.ret (.bi .sum (.cons (.comp (.ix (.v 0) (.v 2)) (.nm 2) (.seq (.v 1)) .nil) .nil))) .nil)
def g_law_weigh : Ss := (.cons (.ret (.bi .sum (.cons (.comp (.ix (.v 0) (.v 2)) (.nm 2) (.seq (.v 1)) .nil) .nil))) .nil)
abbrev LT := Tup Int
abbrev el (l : LT) : D := Datum.toD l
theorem el_eq (xs : List Int) : el ⟨xs⟩ = .tuple (xs.map PyData.int) := rfl
theorem el_items (l : LT) : el l = .tuple (l.items.map PyData.int) := rfl
def ex (z : Int) (l : LT) : LT := ⟨l.items ++ [z]⟩
/-- all lots of n points, in the order in which they are made -/
def lotsM : Nat → List LT
  | 0 => [⟨[]⟩]
  | n + 1 => lotsM n ++ (lotsM n).map (ex (n : Int))
theorem lotsM_len : ∀ n, (lotsM n).length = 2 ^ n
  | 0 => rfl
  | n + 1 => by simp [lotsM, lotsM_len n, Nat.pow_succ]; omega
theorem lotsM_mem : ∀ {n : Nat} {l : LT}, l ∈ lotsM n ↔ l.items.Pairwise (· < ·) ∧ ∀ z ∈ l.items, 0 ≤ z ∧ z < n
  | 0, l => by
    simp only [lotsM, List.mem_singleton]
    constructor
    · rintro rfl
      exact ⟨List.Pairwise.nil, nofun⟩
    · rintro ⟨_, h⟩
      cases l with
      | mk xs =>
        cases xs with
        | nil => rfl
        | cons x xs => have := h x (by simp); omega
  | n + 1, l => by
    simp only [lotsM, List.mem_append, List.mem_map]
    constructor
    · rintro (h | ⟨m, h, rfl⟩)
      · obtain ⟨h1, h2⟩ := lotsM_mem.mp h
        exact ⟨h1, fun z hz => by have := h2 z hz; omega⟩
      · obtain ⟨h1, h2⟩ := lotsM_mem.mp h
        refine ⟨List.pairwise_append.mpr ⟨h1, List.pairwise_singleton _ _, fun a ha b hb => ?_⟩, fun z hz => ?_⟩
        · simp only [List.mem_singleton] at hb
          subst hb
          exact (h2 a ha).2
        · simp only [ex, List.mem_append, List.mem_singleton] at hz
          rcases hz with hz | rfl
          · have := h2 z hz; omega
          · omega
    · rintro ⟨h1, h2⟩
      by_cases hn : (n : Int) ∈ l.items
      · right
        have hne : l.items ≠ [] := fun e => by rw [e] at hn; cases hn
        have hd := List.dropLast_concat_getLast hne
        have hlast : l.items.getLast hne = n := by
          rw [← hd] at hn h1
          rcases List.mem_append.mp hn with q | q
          · have q1 := (List.pairwise_append.mp h1).2.2 _ q (l.items.getLast hne) (by simp)
            have q2 := (h2 _ (List.getLast_mem hne)).2
            omega
          · simpa using (List.mem_singleton.mp q).symm
        refine ⟨⟨l.items.dropLast⟩, lotsM_mem.mpr ⟨?_, fun z hz => ?_⟩, ?_⟩
        · exact h1.sublist (List.dropLast_sublist _)
        · have a := h2 z (List.dropLast_subset _ hz)
          rw [← hd] at h1
          have b := (List.pairwise_append.mp h1).2.2 z hz (l.items.getLast hne) (by simp)
          rw [hlast] at b
          exact ⟨a.1, b⟩
        · cases l with
          | mk xs =>
            simp only [ex] at hd hlast ⊢
            rw [← hlast, hd]
      · left
        refine lotsM_mem.mpr ⟨h1, fun z hz => ?_⟩
        have a := h2 z hz
        have : z ≠ n := fun e => hn (e ▸ hz)
        omega
theorem lotsM_nodup : ∀ n, (lotsM n).Nodup
  | 0 => by simp [lotsM]
  | n + 1 => by
    have ih := lotsM_nodup n
    refine List.nodup_append.mpr ⟨ih, ?_, fun a ha b hb e => ?_⟩
    · have p : List.Pairwise (· ≠ ·) (lotsM n) := ih
      refine p.map _ fun a b h e => h ?_
      cases a; cases b
      simp only [ex, Tup.mk.injEq] at e
      exact congrArg Tup.mk (List.append_cancel_right e)
    · subst e
      obtain ⟨m, hm, rfl⟩ := List.mem_map.mp hb
      have := ((lotsM_mem.mp ha).2 n (by simp [ex])).2
      omega
theorem lotsM_items {n : Nat} {l : LT} (h : l ∈ lotsM n) : l.items.length ≤ n := by
  induction n generalizing l with
  | zero => simp only [lotsM, List.mem_singleton] at h; subst h; exact Nat.le_refl _
  | succ n ih =>
    rcases List.mem_append.mp h with h | h
    · exact Nat.le_succ_of_le (ih h)
    · obtain ⟨m, hm, rfl⟩ := List.mem_map.mp h
      have := ih hm
      simp [ex]; omega
/-! by masks -/
def bits (n m : Nat) : LT := ⟨((List.range n).filter fun k => m.testBit k).map fun k : Nat => (k : Int)⟩
theorem bits_low {n m : Nat} (h : m < 2 ^ n) : bits (n + 1) m = bits n m := by
  unfold bits
  rw [List.range_succ, List.filter_append]
  have : ([n].filter fun k => m.testBit k) = [] := by simp [Nat.testBit_lt_two_pow h]
  rw [this, List.append_nil]
theorem bits_high {n m : Nat} (h : m < 2 ^ n) : bits (n + 1) (2 ^ n + m) = ex n (bits n m) := by
  unfold bits ex
  rw [List.range_succ, List.filter_append, List.map_append]
  have h1 : ([n].filter fun k => (2 ^ n + m).testBit k) = [n] := by
    have : (2 ^ n + m).testBit n = true := by rw [Nat.testBit_two_pow_add_eq]; simp [Nat.testBit_lt_two_pow h]
    simp [this]
  have h2 : ((List.range n).filter fun k => (2 ^ n + m).testBit k) = (List.range n).filter fun k => m.testBit k := by
    refine List.filter_congr fun k hk => ?_
    rw [Nat.testBit_two_pow_add_gt (List.mem_range.mp hk)]
  rw [h1, h2]
  rfl
theorem range_double (n : Nat) : List.range (2 ^ (n + 1)) = List.range (2 ^ n) ++ (List.range (2 ^ n)).map (2 ^ n + ·) := by
  rw [Nat.pow_succ, Nat.mul_two, List.range_add]
theorem masks : ∀ n, (List.range (2 ^ n)).map (bits n) = lotsM n
  | 0 => rfl
  | n + 1 => by
    rw [range_double, List.map_append, List.map_map, lotsM]
    congr 1
    · rw [← masks n]
      exact List.map_congr_left fun m hm => bits_low (List.mem_range.mp hm)
    · rw [← masks n, List.map_map]
      exact List.map_congr_left fun m hm => bits_high (List.mem_range.mp hm)
theorem shl_1 (n : Nat) (h : n ≤ 1000) : op2Ev .shl (.int 1) (.int (n : Nat)) = some (.sh (.int ((2 ^ n : Nat) : Int))) := by
  simp only [op2Ev]
  rw [if_pos (by omega), Int.toNat_natCast, Int.one_mul]
  simp
theorem shr_k (m k : Nat) : op2Ev .shr (.int (m : Nat)) (.int (k : Nat)) = some (.sh (.int ((m / 2 ^ k : Nat) : Int))) := by
  simp only [op2Ev]
  rw [if_pos (by omega), Int.toNat_natCast]
  simp
theorem band_1 (m : Nat) : op2Ev .band (.int (m : Nat)) (.int 1) = some (.sh (.int ((m % 2 : Nat) : Int))) := by
  simp only [op2Ev]
  rw [PyProof.Rows.bitAnd_m1]
  simp
def AllLotsOk (C : Ctx) (k : Nat) : Prop := ∀ n : Nat, n ≤ 20 → C.cal k [.sh (.int n)] = some (true, .list ((srtT (lotsM n)).map el), [])
theorem all_lots_ok {C : Ctx} {n : Nat} (hn : n ≤ 20) : callB C 4 g_all_lots [.sh (.int n)] = some (true, .list ((srtT (lotsM n)).map el), []) := by
  unfold callB g_all_lots
  rw [show startE 4 [Ar.sh (.int n)] = [.sh (.int n), .un, .un, .un] from rfl]
  have p20 : 2 ^ n ≤ 1048576 := by
    have := Nat.pow_le_pow_right (n := 2) (by omega) hn
    simpa using this
  obtain ⟨N, hN⟩ : ∃ N, 2 ^ n = N := ⟨_, rfl⟩
  have sh := shl_1 n (by omega)
  rw [hN] at sh p20
  have hr : evI C (.rng1 (.op2 .shl (.con (.int 1)) (.v 0))) [.sh (.int n), .ow none (.list []), .un, .un] = some ((List.range N).map fun k => (PyData.int (k : Nat)), [.sh (.int n), .ow none (.list []), .un, .un]) := by
    simp only [q_v, q_con, q_glo, q_no, q_tup, q_lst, q_dnk, q_op2, q_neg, q_cmp, q_cmp2, q_and, q_or, q_not, q_ite, q_bi, q_lrng, q_mu, q_call, q_ix, q_sl, q_rev, q_lnil, q_lcons, q_rnil, q_rcons, q_fnil, q_fcons, q_anil, q_aval, q_aio, q_seq, q_rng1, q_rng2, q_zip, q_enm, q_T, q_sh, q_fr, q_pk, q_fsh, q_ffr, q_fpk, q_cnil, q_ccons, q_aanil, q_aash, q_aaio, q_gnil, q_gcons, q_pnm, q_pix, q_rsh, q_rfr, q_rpk, q_Nnil, q_Ncons, q_Pnil, q_Pcons, q_tsh, q_tfr, q_tpk, q_Sexpr, q_Sset, q_Spar, q_Sunp, q_Siff, q_Sret, q_SretN, q_Swipe, q_SSnil, q_SScons, q_at0, q_atS, q_wnil, q_wcons, q_bnm, q_btp, q_btl, q_snil, q_scons, q_comp, q_dcomp, q_onil, q_osh, q_oio, Option.bind_some, Option.map_some, Option.bind_none, Option.map_none, List.set_cons_zero, List.set_cons_succ, Tg.slots, muK, muF, if_true, Bool.false_eq_true, if_false, ix_0, ix_1, ix_2, ix_3, ix_4, ixt_0, ixt_1, sx_1, sx_2, sx_3, sx_4, eq_int, ne_int, lt_int, gt_int, le_int, ge_int, isin_ev, notin_ev, add_int, sub_int, pow_10_18, tr_bool, io_int, so_list, so_tup, len_list, len_tup, int_int, abs_int, tup_list, tup_tup, lst_list, lst_tup, apSlots, Bool.not_true, Bool.not_false, decide_true, decide_false, reduceIte, reduceCtorEq, Nat.reduceAdd, List.length_map, sh]
    rw [if_pos (by omega), rng_int]
  have w := for_go (C := C) (tg := .nm 2) (body := (.cons (.expr (.mu .append 1 (.cons (.bi .tup (.cons (.comp (.v 3) (.nm 3) (.rng1 (.v 0)) (.cons (.cmp .eq (.op2 .band (.op2 .shr (.v 2) (.v 3)) (.con (.int 1))) (.con (.int 1))) .nil)) .nil)) .nil))) (.cons (.wipe [2]) .nil))) hr (fun i ρ => ρ = [.sh (.int n), .ow none (.list (((List.range i).map (bits n)).map el)), .un, .un]) rfl (fun m mv ρ2 hm hI => ?_)
  · obtain ⟨ρ2, e2, rfl⟩ := w
    rw [List.length_range, ← hN, masks] at e2
    have so : biEv .srt [.list ((lotsM n).map el)] = some (.fr (.list ((srtT (lotsM n)).map el))) := by
      simp only [biEv]
      rw [srt_enc (α := LT) (by decide)]
      rfl
    simp only [q_v, q_con, q_glo, q_no, q_tup, q_lst, q_dnk, q_op2, q_neg, q_cmp, q_cmp2, q_and, q_or, q_not, q_ite, q_bi, q_lrng, q_mu, q_call, q_ix, q_sl, q_rev, q_lnil, q_lcons, q_rnil, q_rcons, q_fnil, q_fcons, q_anil, q_aval, q_aio, q_seq, q_rng1, q_rng2, q_zip, q_enm, q_T, q_sh, q_fr, q_pk, q_fsh, q_ffr, q_fpk, q_cnil, q_ccons, q_aanil, q_aash, q_aaio, q_gnil, q_gcons, q_pnm, q_pix, q_rsh, q_rfr, q_rpk, q_Nnil, q_Ncons, q_Pnil, q_Pcons, q_tsh, q_tfr, q_tpk, q_Sexpr, q_Sset, q_Spar, q_Sunp, q_Siff, q_Sret, q_SretN, q_Swipe, q_SSnil, q_SScons, q_at0, q_atS, q_wnil, q_wcons, q_bnm, q_btp, q_btl, q_snil, q_scons, q_comp, q_dcomp, q_onil, q_osh, q_oio, Option.bind_some, Option.map_some, Option.bind_none, Option.map_none, List.set_cons_zero, List.set_cons_succ, Tg.slots, muK, muF, if_true, Bool.false_eq_true, if_false, ix_0, ix_1, ix_2, ix_3, ix_4, ixt_0, ixt_1, sx_1, sx_2, sx_3, sx_4, eq_int, ne_int, lt_int, gt_int, le_int, ge_int, isin_ev, notin_ev, add_int, sub_int, pow_10_18, tr_bool, io_int, so_list, so_tup, len_list, len_tup, int_int, abs_int, tup_list, tup_tup, lst_list, lst_tup, apSlots, Bool.not_true, Bool.not_false, decide_true, decide_false, reduceIte, reduceCtorEq, Nat.reduceAdd, List.length_map, e2, so]
  · subst hI
    have hmv : mv = m := by
      have := (List.getElem?_eq_some_iff.mp hm).2
      simpa using this.symm
    subst hmv
    have hmn : mv < N := by
      have := (List.getElem?_eq_some_iff.mp hm).1
      simpa using this
    have hr2 : evI C (.rng1 (.v 0)) [.sh (.int n), .ow none (.list (((List.range mv).map (bits n)).map el)), .sh (.int (mv : Nat)), .un] = some ((List.range n).map fun k => (PyData.int (k : Nat)), [.sh (.int n), .ow none (.list (((List.range mv).map (bits n)).map el)), .sh (.int (mv : Nat)), .un]) := by
      simp only [q_v, q_con, q_glo, q_no, q_tup, q_lst, q_dnk, q_op2, q_neg, q_cmp, q_cmp2, q_and, q_or, q_not, q_ite, q_bi, q_lrng, q_mu, q_call, q_ix, q_sl, q_rev, q_lnil, q_lcons, q_rnil, q_rcons, q_fnil, q_fcons, q_anil, q_aval, q_aio, q_seq, q_rng1, q_rng2, q_zip, q_enm, q_T, q_sh, q_fr, q_pk, q_fsh, q_ffr, q_fpk, q_cnil, q_ccons, q_aanil, q_aash, q_aaio, q_gnil, q_gcons, q_pnm, q_pix, q_rsh, q_rfr, q_rpk, q_Nnil, q_Ncons, q_Pnil, q_Pcons, q_tsh, q_tfr, q_tpk, q_Sexpr, q_Sset, q_Spar, q_Sunp, q_Siff, q_Sret, q_SretN, q_Swipe, q_SSnil, q_SScons, q_at0, q_atS, q_wnil, q_wcons, q_bnm, q_btp, q_btl, q_snil, q_scons, q_comp, q_dcomp, q_onil, q_osh, q_oio, Option.bind_some, Option.map_some, Option.bind_none, Option.map_none, List.set_cons_zero, List.set_cons_succ, Tg.slots, muK, muF, if_true, Bool.false_eq_true, if_false, ix_0, ix_1, ix_2, ix_3, ix_4, ixt_0, ixt_1, sx_1, sx_2, sx_3, sx_4, eq_int, ne_int, lt_int, gt_int, le_int, ge_int, isin_ev, notin_ev, add_int, sub_int, pow_10_18, tr_bool, io_int, so_list, so_tup, len_list, len_tup, int_int, abs_int, tup_list, tup_tup, lst_list, lst_tup, apSlots, Bool.not_true, Bool.not_false, decide_true, decide_false, reduceIte, reduceCtorEq, Nat.reduceAdd, List.length_map]
      rw [if_pos (by omega), rng_int]
    have c := comp_filter (C := C) (elt := .v 3) (tg := .nm 3) (ifs := (.cons (.cmp .eq (.op2 .band (.op2 .shr (.v 2) (.v 3)) (.con (.int 1))) (.con (.int 1))) .nil)) (g := fun k => .int (k : Nat)) (p := fun k => mv.testBit k) hr2 (fun k _ => by
      have tb : mv.testBit k = decide (mv / 2 ^ k % 2 = 1) := by rw [Nat.testBit_eq_decide_div_mod_eq]
      have tb2 : decide (((mv / 2 ^ k % 2 : Nat) : Int) = 1) = mv.testBit k := by rw [tb]; exact decide_eq_decide.mpr (by omega)
      simp only [q_v, q_con, q_glo, q_no, q_tup, q_lst, q_dnk, q_op2, q_neg, q_cmp, q_cmp2, q_and, q_or, q_not, q_ite, q_bi, q_lrng, q_mu, q_call, q_ix, q_sl, q_rev, q_lnil, q_lcons, q_rnil, q_rcons, q_fnil, q_fcons, q_anil, q_aval, q_aio, q_seq, q_rng1, q_rng2, q_zip, q_enm, q_T, q_sh, q_fr, q_pk, q_fsh, q_ffr, q_fpk, q_cnil, q_ccons, q_aanil, q_aash, q_aaio, q_gnil, q_gcons, q_pnm, q_pix, q_rsh, q_rfr, q_rpk, q_Nnil, q_Ncons, q_Pnil, q_Pcons, q_tsh, q_tfr, q_tpk, q_Sexpr, q_Sset, q_Spar, q_Sunp, q_Siff, q_Sret, q_SretN, q_Swipe, q_SSnil, q_SScons, q_at0, q_atS, q_wnil, q_wcons, q_bnm, q_btp, q_btl, q_snil, q_scons, q_comp, q_dcomp, q_onil, q_osh, q_oio, Option.bind_some, Option.map_some, Option.bind_none, Option.map_none, List.set_cons_zero, List.set_cons_succ, Tg.slots, muK, muF, if_true, Bool.false_eq_true, if_false, ix_0, ix_1, ix_2, ix_3, ix_4, ixt_0, ixt_1, sx_1, sx_2, sx_3, sx_4, eq_int, ne_int, lt_int, gt_int, le_int, ge_int, isin_ev, notin_ev, add_int, sub_int, pow_10_18, tr_bool, io_int, so_list, so_tup, len_list, len_tup, int_int, abs_int, tup_list, tup_tup, lst_list, lst_tup, apSlots, Bool.not_true, Bool.not_false, decide_true, decide_false, reduceIte, reduceCtorEq, Nat.reduceAdd, List.length_map, shr_k, band_1, tb2]
      cases mv.testBit k <;> rfl)
    refine ⟨_, ?_, rfl⟩
    simp only [q_v, q_con, q_glo, q_no, q_tup, q_lst, q_dnk, q_op2, q_neg, q_cmp, q_cmp2, q_and, q_or, q_not, q_ite, q_bi, q_lrng, q_mu, q_call, q_ix, q_sl, q_rev, q_lnil, q_lcons, q_rnil, q_rcons, q_fnil, q_fcons, q_anil, q_aval, q_aio, q_seq, q_rng1, q_rng2, q_zip, q_enm, q_T, q_sh, q_fr, q_pk, q_fsh, q_ffr, q_fpk, q_cnil, q_ccons, q_aanil, q_aash, q_aaio, q_gnil, q_gcons, q_pnm, q_pix, q_rsh, q_rfr, q_rpk, q_Nnil, q_Ncons, q_Pnil, q_Pcons, q_tsh, q_tfr, q_tpk, q_Sexpr, q_Sset, q_Spar, q_Sunp, q_Siff, q_Sret, q_SretN, q_Swipe, q_SSnil, q_SScons, q_at0, q_atS, q_wnil, q_wcons, q_bnm, q_btp, q_btl, q_snil, q_scons, q_comp, q_dcomp, q_onil, q_osh, q_oio, Option.bind_some, Option.map_some, Option.bind_none, Option.map_none, List.set_cons_zero, List.set_cons_succ, Tg.slots, muK, muF, if_true, Bool.false_eq_true, if_false, ix_0, ix_1, ix_2, ix_3, ix_4, ixt_0, ixt_1, sx_1, sx_2, sx_3, sx_4, eq_int, ne_int, lt_int, gt_int, le_int, ge_int, isin_ev, notin_ev, add_int, sub_int, pow_10_18, tr_bool, io_int, so_list, so_tup, len_list, len_tup, int_int, abs_int, tup_list, tup_tup, lst_list, lst_tup, apSlots, Bool.not_true, Bool.not_false, decide_true, decide_false, reduceIte, reduceCtorEq, Nat.reduceAdd, List.length_map, c, app_ev (show (((List.range mv).map (bits n)).map el).length < 16777216 by simp; omega)]
    rw [List.range_succ, List.map_append, List.map_append]
    simp only [List.map_cons, List.map_nil, bits, el_eq, List.map_map]
    rfl
/-! closed lots -/
def clo (ps : List PR) (l : LT) : Bool := !(ps.any fun p => decide (p.2 ∈ l.items) && !decide (p.1 ∈ l.items))
theorem in_el (z : Int) (l : LT) : inEv (.int z) (el l) = some (decide (z ∈ l.items)) := by
  have := in_tup (α := Int) (by decide) z l.items
  rw [show inEv (.int z) (el l) = inEv (Datum.toD z) (.tuple (l.items.map Datum.toD)) from rfl, this]
def IsCloOk (C : Ctx) (k : Nat) : Prop := ∀ (n : Nat) (ps : List PR) (l : LT), C.cal k [.sh (ordD n ps), .sh (el l)] = some (false, .bool (clo ps l), [])
theorem is_closed_ok {C : Ctx} (n : Nat) (ps : List PR) (l : LT) : callB C 4 g_is_closed [.sh (ordD n ps), .sh (el l)] = some (false, .bool (clo ps l), []) := by
  unfold callB g_is_closed
  rw [show startE 4 [Ar.sh (ordD n ps), .sh (el l)] = [.sh (.tuple [.int n, .tuple (ps.map en)]), .sh (el l), .un, .un] from rfl]
  have c := comp_map (C := C) (elt := (.and (.cmp .isin (.v 3) (.v 1)) (.cmp .notin (.v 2) (.v 1)))) (tg := .tp [2, 3]) (it := (.seq (.ix (.v 0) (.con (.int 1))))) (ifs := .nil) (ρ := [.sh (.tuple [.int n, .tuple (ps.map en)]), .sh (el l), .un, .un]) (ρ1 := [.sh (.tuple [.int n, .tuple (ps.map en)]), .sh (el l), .un, .un]) (as := ps) (T := en) (g := fun p => .bool (decide (p.2 ∈ l.items) && !decide (p.1 ∈ l.items))) (by simp only [q_v, q_con, q_glo, q_no, q_tup, q_lst, q_dnk, q_op2, q_neg, q_cmp, q_cmp2, q_and, q_or, q_not, q_ite, q_bi, q_lrng, q_mu, q_call, q_ix, q_sl, q_rev, q_lnil, q_lcons, q_rnil, q_rcons, q_fnil, q_fcons, q_anil, q_aval, q_aio, q_seq, q_rng1, q_rng2, q_zip, q_enm, q_T, q_sh, q_fr, q_pk, q_fsh, q_ffr, q_fpk, q_cnil, q_ccons, q_aanil, q_aash, q_aaio, q_gnil, q_gcons, q_pnm, q_pix, q_rsh, q_rfr, q_rpk, q_Nnil, q_Ncons, q_Pnil, q_Pcons, q_tsh, q_tfr, q_tpk, q_Sexpr, q_Sset, q_Spar, q_Sunp, q_Siff, q_Sret, q_SretN, q_Swipe, q_SSnil, q_SScons, q_at0, q_atS, q_wnil, q_wcons, q_bnm, q_btp, q_btl, q_snil, q_scons, q_comp, q_dcomp, q_onil, q_osh, q_oio, Option.bind_some, Option.map_some, Option.bind_none, Option.map_none, List.set_cons_zero, List.set_cons_succ, Tg.slots, muK, muF, if_true, Bool.false_eq_true, if_false, ix_0, ix_1, ix_2, ix_3, ix_4, ixt_0, ixt_1, sx_1, sx_2, sx_3, sx_4, eq_int, ne_int, lt_int, gt_int, le_int, ge_int, isin_ev, notin_ev, add_int, sub_int, pow_10_18, tr_bool, io_int, so_list, so_tup, len_list, len_tup, int_int, abs_int, tup_list, tup_tup, lst_list, lst_tup, apSlots, Bool.not_true, Bool.not_false, decide_true, decide_false, reduceIte, reduceCtorEq, Nat.reduceAdd, List.length_map]) (fun p _ => by
    obtain ⟨a, b⟩ := p
    rw [en_eq]
    by_cases h : b ∈ l.items
    · simp only [q_v, q_con, q_glo, q_no, q_tup, q_lst, q_dnk, q_op2, q_neg, q_cmp, q_cmp2, q_and, q_or, q_not, q_ite, q_bi, q_lrng, q_mu, q_call, q_ix, q_sl, q_rev, q_lnil, q_lcons, q_rnil, q_rcons, q_fnil, q_fcons, q_anil, q_aval, q_aio, q_seq, q_rng1, q_rng2, q_zip, q_enm, q_T, q_sh, q_fr, q_pk, q_fsh, q_ffr, q_fpk, q_cnil, q_ccons, q_aanil, q_aash, q_aaio, q_gnil, q_gcons, q_pnm, q_pix, q_rsh, q_rfr, q_rpk, q_Nnil, q_Ncons, q_Pnil, q_Pcons, q_tsh, q_tfr, q_tpk, q_Sexpr, q_Sset, q_Spar, q_Sunp, q_Siff, q_Sret, q_SretN, q_Swipe, q_SSnil, q_SScons, q_at0, q_atS, q_wnil, q_wcons, q_bnm, q_btp, q_btl, q_snil, q_scons, q_comp, q_dcomp, q_onil, q_osh, q_oio, Option.bind_some, Option.map_some, Option.bind_none, Option.map_none, List.set_cons_zero, List.set_cons_succ, Tg.slots, muK, muF, if_true, Bool.false_eq_true, if_false, ix_0, ix_1, ix_2, ix_3, ix_4, ixt_0, ixt_1, sx_1, sx_2, sx_3, sx_4, eq_int, ne_int, lt_int, gt_int, le_int, ge_int, isin_ev, notin_ev, add_int, sub_int, pow_10_18, tr_bool, io_int, so_list, so_tup, len_list, len_tup, int_int, abs_int, tup_list, tup_tup, lst_list, lst_tup, apSlots, Bool.not_true, Bool.not_false, decide_true, decide_false, reduceIte, reduceCtorEq, Nat.reduceAdd, List.length_map, in_el, decide_eq_true h, Bool.true_and]
    · simp only [q_v, q_con, q_glo, q_no, q_tup, q_lst, q_dnk, q_op2, q_neg, q_cmp, q_cmp2, q_and, q_or, q_not, q_ite, q_bi, q_lrng, q_mu, q_call, q_ix, q_sl, q_rev, q_lnil, q_lcons, q_rnil, q_rcons, q_fnil, q_fcons, q_anil, q_aval, q_aio, q_seq, q_rng1, q_rng2, q_zip, q_enm, q_T, q_sh, q_fr, q_pk, q_fsh, q_ffr, q_fpk, q_cnil, q_ccons, q_aanil, q_aash, q_aaio, q_gnil, q_gcons, q_pnm, q_pix, q_rsh, q_rfr, q_rpk, q_Nnil, q_Ncons, q_Pnil, q_Pcons, q_tsh, q_tfr, q_tpk, q_Sexpr, q_Sset, q_Spar, q_Sunp, q_Siff, q_Sret, q_SretN, q_Swipe, q_SSnil, q_SScons, q_at0, q_atS, q_wnil, q_wcons, q_bnm, q_btp, q_btl, q_snil, q_scons, q_comp, q_dcomp, q_onil, q_osh, q_oio, Option.bind_some, Option.map_some, Option.bind_none, Option.map_none, List.set_cons_zero, List.set_cons_succ, Tg.slots, muK, muF, if_true, Bool.false_eq_true, if_false, ix_0, ix_1, ix_2, ix_3, ix_4, ixt_0, ixt_1, sx_1, sx_2, sx_3, sx_4, eq_int, ne_int, lt_int, gt_int, le_int, ge_int, isin_ev, notin_ev, add_int, sub_int, pow_10_18, tr_bool, io_int, so_list, so_tup, len_list, len_tup, int_int, abs_int, tup_list, tup_tup, lst_list, lst_tup, apSlots, Bool.not_true, Bool.not_false, decide_true, decide_false, reduceIte, reduceCtorEq, Nat.reduceAdd, List.length_map, in_el, decide_eq_false h, Bool.false_and])
  simp only [q_v, q_con, q_glo, q_no, q_tup, q_lst, q_dnk, q_op2, q_neg, q_cmp, q_cmp2, q_and, q_or, q_not, q_ite, q_bi, q_lrng, q_mu, q_call, q_ix, q_sl, q_rev, q_lnil, q_lcons, q_rnil, q_rcons, q_fnil, q_fcons, q_anil, q_aval, q_aio, q_seq, q_rng1, q_rng2, q_zip, q_enm, q_T, q_sh, q_fr, q_pk, q_fsh, q_ffr, q_fpk, q_cnil, q_ccons, q_aanil, q_aash, q_aaio, q_gnil, q_gcons, q_pnm, q_pix, q_rsh, q_rfr, q_rpk, q_Nnil, q_Ncons, q_Pnil, q_Pcons, q_tsh, q_tfr, q_tpk, q_Sexpr, q_Sset, q_Spar, q_Sunp, q_Siff, q_Sret, q_SretN, q_Swipe, q_SSnil, q_SScons, q_at0, q_atS, q_wnil, q_wcons, q_bnm, q_btp, q_btl, q_snil, q_scons, q_comp, q_dcomp, q_onil, q_osh, q_oio, Option.bind_some, Option.map_some, Option.bind_none, Option.map_none, List.set_cons_zero, List.set_cons_succ, Tg.slots, muK, muF, if_true, Bool.false_eq_true, if_false, ix_0, ix_1, ix_2, ix_3, ix_4, ixt_0, ixt_1, sx_1, sx_2, sx_3, sx_4, eq_int, ne_int, lt_int, gt_int, le_int, ge_int, isin_ev, notin_ev, add_int, sub_int, pow_10_18, tr_bool, io_int, so_list, so_tup, len_list, len_tup, int_int, abs_int, tup_list, tup_tup, lst_list, lst_tup, apSlots, Bool.not_true, Bool.not_false, decide_true, decide_false, reduceIte, reduceCtorEq, Nat.reduceAdd, List.length_map, c, any_map (fun p : PR => decide (p.2 ∈ l.items) && !decide (p.1 ∈ l.items))]
  try rfl
def ClosedOk (C : Ctx) (k : Nat) : Prop := ∀ (n : Nat) (ps : List PR), n ≤ 20 → C.cal k [.sh (ordD n ps)] = some (true, .list (((srtT (lotsM n)).filter (clo ps)).map el), [])
theorem closed_ok {C : Ctx} {i_all_lots i_is_closed : Nat} (ha : AllLotsOk C i_all_lots) (hc : IsCloOk C i_is_closed) {n : Nat} {ps : List PR} (hn : n ≤ 20) : callB C 2 (g_closed_lots i_all_lots i_is_closed) [.sh (ordD n ps)] = some (true, .list (((srtT (lotsM n)).filter (clo ps)).map el), []) := by
  unfold callB g_closed_lots
  rw [show startE 2 [Ar.sh (ordD n ps)] = [.sh (.tuple [.int n, .tuple (ps.map en)]), .un] from rfl]
  have c := comp_filter (C := C) (elt := .v 1) (tg := .nm 1) (it := (.seq (.call i_all_lots (.val (.ix (.v 0) (.con (.int 0))) .nil)))) (ifs := (.cons (.call i_is_closed (.val (.v 0) (.val (.v 1) .nil))) .nil)) (ρ := [.sh (.tuple [.int n, .tuple (ps.map en)]), .un]) (ρ1 := [.sh (.tuple [.int n, .tuple (ps.map en)]), .un]) (as := srtT (lotsM n)) (T := el) (g := el) (p := clo ps) (by simp only [q_v, q_con, q_glo, q_no, q_tup, q_lst, q_dnk, q_op2, q_neg, q_cmp, q_cmp2, q_and, q_or, q_not, q_ite, q_bi, q_lrng, q_mu, q_call, q_ix, q_sl, q_rev, q_lnil, q_lcons, q_rnil, q_rcons, q_fnil, q_fcons, q_anil, q_aval, q_aio, q_seq, q_rng1, q_rng2, q_zip, q_enm, q_T, q_sh, q_fr, q_pk, q_fsh, q_ffr, q_fpk, q_cnil, q_ccons, q_aanil, q_aash, q_aaio, q_gnil, q_gcons, q_pnm, q_pix, q_rsh, q_rfr, q_rpk, q_Nnil, q_Ncons, q_Pnil, q_Pcons, q_tsh, q_tfr, q_tpk, q_Sexpr, q_Sset, q_Spar, q_Sunp, q_Siff, q_Sret, q_SretN, q_Swipe, q_SSnil, q_SScons, q_at0, q_atS, q_wnil, q_wcons, q_bnm, q_btp, q_btl, q_snil, q_scons, q_comp, q_dcomp, q_onil, q_osh, q_oio, Option.bind_some, Option.map_some, Option.bind_none, Option.map_none, List.set_cons_zero, List.set_cons_succ, Tg.slots, muK, muF, if_true, Bool.false_eq_true, if_false, ix_0, ix_1, ix_2, ix_3, ix_4, ixt_0, ixt_1, sx_1, sx_2, sx_3, sx_4, eq_int, ne_int, lt_int, gt_int, le_int, ge_int, isin_ev, notin_ev, add_int, sub_int, pow_10_18, tr_bool, io_int, so_list, so_tup, len_list, len_tup, int_int, abs_int, tup_list, tup_tup, lst_list, lst_tup, apSlots, Bool.not_true, Bool.not_false, decide_true, decide_false, reduceIte, reduceCtorEq, Nat.reduceAdd, List.length_map, ha n hn, List.nodup_nil]) (fun l _ => by
    have := hc n ps l
    rw [show ordD n ps = .tuple [.int n, .tuple (ps.map en)] from rfl] at this
    simp only [q_v, q_con, q_glo, q_no, q_tup, q_lst, q_dnk, q_op2, q_neg, q_cmp, q_cmp2, q_and, q_or, q_not, q_ite, q_bi, q_lrng, q_mu, q_call, q_ix, q_sl, q_rev, q_lnil, q_lcons, q_rnil, q_rcons, q_fnil, q_fcons, q_anil, q_aval, q_aio, q_seq, q_rng1, q_rng2, q_zip, q_enm, q_T, q_sh, q_fr, q_pk, q_fsh, q_ffr, q_fpk, q_cnil, q_ccons, q_aanil, q_aash, q_aaio, q_gnil, q_gcons, q_pnm, q_pix, q_rsh, q_rfr, q_rpk, q_Nnil, q_Ncons, q_Pnil, q_Pcons, q_tsh, q_tfr, q_tpk, q_Sexpr, q_Sset, q_Spar, q_Sunp, q_Siff, q_Sret, q_SretN, q_Swipe, q_SSnil, q_SScons, q_at0, q_atS, q_wnil, q_wcons, q_bnm, q_btp, q_btl, q_snil, q_scons, q_comp, q_dcomp, q_onil, q_osh, q_oio, Option.bind_some, Option.map_some, Option.bind_none, Option.map_none, List.set_cons_zero, List.set_cons_succ, Tg.slots, muK, muF, if_true, Bool.false_eq_true, if_false, ix_0, ix_1, ix_2, ix_3, ix_4, ixt_0, ixt_1, sx_1, sx_2, sx_3, sx_4, eq_int, ne_int, lt_int, gt_int, le_int, ge_int, isin_ev, notin_ev, add_int, sub_int, pow_10_18, tr_bool, io_int, so_list, so_tup, len_list, len_tup, int_int, abs_int, tup_list, tup_tup, lst_list, lst_tup, apSlots, Bool.not_true, Bool.not_false, decide_true, decide_false, reduceIte, reduceCtorEq, Nat.reduceAdd, List.length_map, this, List.nodup_nil]
    cases clo ps l <;> rfl)
  simp only [q_v, q_con, q_glo, q_no, q_tup, q_lst, q_dnk, q_op2, q_neg, q_cmp, q_cmp2, q_and, q_or, q_not, q_ite, q_bi, q_lrng, q_mu, q_call, q_ix, q_sl, q_rev, q_lnil, q_lcons, q_rnil, q_rcons, q_fnil, q_fcons, q_anil, q_aval, q_aio, q_seq, q_rng1, q_rng2, q_zip, q_enm, q_T, q_sh, q_fr, q_pk, q_fsh, q_ffr, q_fpk, q_cnil, q_ccons, q_aanil, q_aash, q_aaio, q_gnil, q_gcons, q_pnm, q_pix, q_rsh, q_rfr, q_rpk, q_Nnil, q_Ncons, q_Pnil, q_Pcons, q_tsh, q_tfr, q_tpk, q_Sexpr, q_Sset, q_Spar, q_Sunp, q_Siff, q_Sret, q_SretN, q_Swipe, q_SSnil, q_SScons, q_at0, q_atS, q_wnil, q_wcons, q_bnm, q_btp, q_btl, q_snil, q_scons, q_comp, q_dcomp, q_onil, q_osh, q_oio, Option.bind_some, Option.map_some, Option.bind_none, Option.map_none, List.set_cons_zero, List.set_cons_succ, Tg.slots, muK, muF, if_true, Bool.false_eq_true, if_false, ix_0, ix_1, ix_2, ix_3, ix_4, ixt_0, ixt_1, sx_1, sx_2, sx_3, sx_4, eq_int, ne_int, lt_int, gt_int, le_int, ge_int, isin_ev, notin_ev, add_int, sub_int, pow_10_18, tr_bool, io_int, so_list, so_tup, len_list, len_tup, int_int, abs_int, tup_list, tup_tup, lst_list, lst_tup, apSlots, Bool.not_true, Bool.not_false, decide_true, decide_false, reduceIte, reduceCtorEq, Nat.reduceAdd, List.length_map, c]
/-! the law's own lots -/
abbrev sz (l : LT) : Int × LT := ((l.items.length : Nat), l)
def lawLots (n : Nat) : List LT := (srtT ((lotsM n).map sz)).map (·.2)
def LLotsOk (C : Ctx) (k : Nat) : Prop := ∀ n : Nat, n ≤ 20 → C.cal k [.sh (.int n)] = some (true, .list ((lawLots n).map el), [])
theorem law_lots_ok {C : Ctx} {n : Nat} (hn : n ≤ 20) : callB C 5 g_law_lots [.sh (.int n)] = some (true, .list ((lawLots n).map el), []) := by
  unfold callB g_law_lots
  rw [show startE 5 [Ar.sh (.int n)] = [.sh (.int n), .un, .un, .un, .un] from rfl]
  have p20 : 2 ^ n ≤ 1048576 := by
    have := Nat.pow_le_pow_right (n := 2) (by omega) hn
    simpa using this
  have hr : evI C (.rng1 (.v 0)) [.sh (.int n), .ow none (.list [.tuple []]), .un, .un, .un] = some ((List.range n).map fun k => (PyData.int (k : Nat)), [.sh (.int n), .ow none (.list [.tuple []]), .un, .un, .un]) := by
    simp only [q_v, q_con, q_glo, q_no, q_tup, q_lst, q_dnk, q_op2, q_neg, q_cmp, q_cmp2, q_and, q_or, q_not, q_ite, q_bi, q_lrng, q_mu, q_call, q_ix, q_sl, q_rev, q_lnil, q_lcons, q_rnil, q_rcons, q_fnil, q_fcons, q_anil, q_aval, q_aio, q_seq, q_rng1, q_rng2, q_zip, q_enm, q_T, q_sh, q_fr, q_pk, q_fsh, q_ffr, q_fpk, q_cnil, q_ccons, q_aanil, q_aash, q_aaio, q_gnil, q_gcons, q_pnm, q_pix, q_rsh, q_rfr, q_rpk, q_Nnil, q_Ncons, q_Pnil, q_Pcons, q_tsh, q_tfr, q_tpk, q_Sexpr, q_Sset, q_Spar, q_Sunp, q_Siff, q_Sret, q_SretN, q_Swipe, q_SSnil, q_SScons, q_at0, q_atS, q_wnil, q_wcons, q_bnm, q_btp, q_btl, q_snil, q_scons, q_comp, q_dcomp, q_onil, q_osh, q_oio, Option.bind_some, Option.map_some, Option.bind_none, Option.map_none, List.set_cons_zero, List.set_cons_succ, Tg.slots, muK, muF, if_true, Bool.false_eq_true, if_false, ix_0, ix_1, ix_2, ix_3, ix_4, ixt_0, ixt_1, sx_1, sx_2, sx_3, sx_4, eq_int, ne_int, lt_int, gt_int, le_int, ge_int, isin_ev, notin_ev, add_int, sub_int, pow_10_18, tr_bool, io_int, so_list, so_tup, len_list, len_tup, int_int, abs_int, tup_list, tup_tup, lst_list, lst_tup, apSlots, Bool.not_true, Bool.not_false, decide_true, decide_false, reduceIte, reduceCtorEq, Nat.reduceAdd, List.length_map]
    rw [if_pos (by omega), rng_int]
  have w := for_go (C := C) (tg := .nm 2) (body := (.cons (.set (.nm 1) (.op2 .add (.v 1) (.comp (.op2 .add (.v 4) (.tup (.cons (.v 2) .nil))) (.nm 4) (.seq (.v 1)) .nil))) (.cons (.wipe [2]) .nil))) hr (fun i ρ => ρ = [.sh (.int n), .ow none (.list ((lotsM i).map el)), .un, .un, .un]) rfl (fun m mv ρ2 hm hI => ?_)
  · obtain ⟨ρ2, e2, rfl⟩ := w
    rw [List.length_range] at e2
    have c1 := comp_map (C := C) (elt := (.tup (.cons (.bi .len (.cons (.v 4) .nil)) (.cons (.v 4) .nil)))) (tg := .nm 4) (it := .seq (.v 1)) (ifs := .nil) (ρ := [.sh (.int n), .ow none (.list ((lotsM n).map el)), .un, .un, .un]) (ρ1 := [.sh (.int n), .sh (.list ((lotsM n).map el)), .un, .un, .un]) (as := lotsM n) (T := el) (g := fun l => Datum.toD (sz l)) (by simp only [q_v, q_con, q_glo, q_no, q_tup, q_lst, q_dnk, q_op2, q_neg, q_cmp, q_cmp2, q_and, q_or, q_not, q_ite, q_bi, q_lrng, q_mu, q_call, q_ix, q_sl, q_rev, q_lnil, q_lcons, q_rnil, q_rcons, q_fnil, q_fcons, q_anil, q_aval, q_aio, q_seq, q_rng1, q_rng2, q_zip, q_enm, q_T, q_sh, q_fr, q_pk, q_fsh, q_ffr, q_fpk, q_cnil, q_ccons, q_aanil, q_aash, q_aaio, q_gnil, q_gcons, q_pnm, q_pix, q_rsh, q_rfr, q_rpk, q_Nnil, q_Ncons, q_Pnil, q_Pcons, q_tsh, q_tfr, q_tpk, q_Sexpr, q_Sset, q_Spar, q_Sunp, q_Siff, q_Sret, q_SretN, q_Swipe, q_SSnil, q_SScons, q_at0, q_atS, q_wnil, q_wcons, q_bnm, q_btp, q_btl, q_snil, q_scons, q_comp, q_dcomp, q_onil, q_osh, q_oio, Option.bind_some, Option.map_some, Option.bind_none, Option.map_none, List.set_cons_zero, List.set_cons_succ, Tg.slots, muK, muF, if_true, Bool.false_eq_true, if_false, ix_0, ix_1, ix_2, ix_3, ix_4, ixt_0, ixt_1, sx_1, sx_2, sx_3, sx_4, eq_int, ne_int, lt_int, gt_int, le_int, ge_int, isin_ev, notin_ev, add_int, sub_int, pow_10_18, tr_bool, io_int, so_list, so_tup, len_list, len_tup, int_int, abs_int, tup_list, tup_tup, lst_list, lst_tup, apSlots, Bool.not_true, Bool.not_false, decide_true, decide_false, reduceIte, reduceCtorEq, Nat.reduceAdd, List.length_map]) (fun l _ => by
      rw [el_items]
      simp only [q_v, q_con, q_glo, q_no, q_tup, q_lst, q_dnk, q_op2, q_neg, q_cmp, q_cmp2, q_and, q_or, q_not, q_ite, q_bi, q_lrng, q_mu, q_call, q_ix, q_sl, q_rev, q_lnil, q_lcons, q_rnil, q_rcons, q_fnil, q_fcons, q_anil, q_aval, q_aio, q_seq, q_rng1, q_rng2, q_zip, q_enm, q_T, q_sh, q_fr, q_pk, q_fsh, q_ffr, q_fpk, q_cnil, q_ccons, q_aanil, q_aash, q_aaio, q_gnil, q_gcons, q_pnm, q_pix, q_rsh, q_rfr, q_rpk, q_Nnil, q_Ncons, q_Pnil, q_Pcons, q_tsh, q_tfr, q_tpk, q_Sexpr, q_Sset, q_Spar, q_Sunp, q_Siff, q_Sret, q_SretN, q_Swipe, q_SSnil, q_SScons, q_at0, q_atS, q_wnil, q_wcons, q_bnm, q_btp, q_btl, q_snil, q_scons, q_comp, q_dcomp, q_onil, q_osh, q_oio, Option.bind_some, Option.map_some, Option.bind_none, Option.map_none, List.set_cons_zero, List.set_cons_succ, Tg.slots, muK, muF, if_true, Bool.false_eq_true, if_false, ix_0, ix_1, ix_2, ix_3, ix_4, ixt_0, ixt_1, sx_1, sx_2, sx_3, sx_4, eq_int, ne_int, lt_int, gt_int, le_int, ge_int, isin_ev, notin_ev, add_int, sub_int, pow_10_18, tr_bool, io_int, so_list, so_tup, len_list, len_tup, int_int, abs_int, tup_list, tup_tup, lst_list, lst_tup, apSlots, Bool.not_true, Bool.not_false, decide_true, decide_false, reduceIte, reduceCtorEq, Nat.reduceAdd, List.length_map]
      rfl)
    have so : biEv .srt [.list ((lotsM n).map fun l => Datum.toD (sz l))] = some (.fr (.list ((srtT ((lotsM n).map sz)).map Datum.toD))) := by
      simp only [biEv]
      rw [show ((lotsM n).map fun l => Datum.toD (sz l)) = ((lotsM n).map sz).map Datum.toD by rw [List.map_map]; rfl, srt_enc (α := Int × LT) (by decide)]
      rfl
    have c2 := comp_map (C := C) (elt := .v 4) (tg := .tp [3, 4]) (it := (.seq (.bi .srt (.cons (.comp (.tup (.cons (.bi .len (.cons (.v 4) .nil)) (.cons (.v 4) .nil))) (.nm 4) (.seq (.v 1)) .nil) .nil)))) (ifs := .nil) (ρ := [.sh (.int n), .ow none (.list ((lotsM n).map el)), .un, .un, .un]) (ρ1 := [.sh (.int n), .sh (.list ((lotsM n).map el)), .un, .un, .un]) (as := srtT ((lotsM n).map sz)) (T := fun q => Datum.toD q) (g := fun q => el q.2) (by simp only [q_v, q_con, q_glo, q_no, q_tup, q_lst, q_dnk, q_op2, q_neg, q_cmp, q_cmp2, q_and, q_or, q_not, q_ite, q_bi, q_lrng, q_mu, q_call, q_ix, q_sl, q_rev, q_lnil, q_lcons, q_rnil, q_rcons, q_fnil, q_fcons, q_anil, q_aval, q_aio, q_seq, q_rng1, q_rng2, q_zip, q_enm, q_T, q_sh, q_fr, q_pk, q_fsh, q_ffr, q_fpk, q_cnil, q_ccons, q_aanil, q_aash, q_aaio, q_gnil, q_gcons, q_pnm, q_pix, q_rsh, q_rfr, q_rpk, q_Nnil, q_Ncons, q_Pnil, q_Pcons, q_tsh, q_tfr, q_tpk, q_Sexpr, q_Sset, q_Spar, q_Sunp, q_Siff, q_Sret, q_SretN, q_Swipe, q_SSnil, q_SScons, q_at0, q_atS, q_wnil, q_wcons, q_bnm, q_btp, q_btl, q_snil, q_scons, q_comp, q_dcomp, q_onil, q_osh, q_oio, Option.bind_some, Option.map_some, Option.bind_none, Option.map_none, List.set_cons_zero, List.set_cons_succ, Tg.slots, muK, muF, if_true, Bool.false_eq_true, if_false, ix_0, ix_1, ix_2, ix_3, ix_4, ixt_0, ixt_1, sx_1, sx_2, sx_3, sx_4, eq_int, ne_int, lt_int, gt_int, le_int, ge_int, isin_ev, notin_ev, add_int, sub_int, pow_10_18, tr_bool, io_int, so_list, so_tup, len_list, len_tup, int_int, abs_int, tup_list, tup_tup, lst_list, lst_tup, apSlots, Bool.not_true, Bool.not_false, decide_true, decide_false, reduceIte, reduceCtorEq, Nat.reduceAdd, List.length_map, c1, so]) (fun q _ => by
      rw [show (Datum.toD q : D) = .tuple [.int q.1, el q.2] from rfl]
      simp only [q_v, q_con, q_glo, q_no, q_tup, q_lst, q_dnk, q_op2, q_neg, q_cmp, q_cmp2, q_and, q_or, q_not, q_ite, q_bi, q_lrng, q_mu, q_call, q_ix, q_sl, q_rev, q_lnil, q_lcons, q_rnil, q_rcons, q_fnil, q_fcons, q_anil, q_aval, q_aio, q_seq, q_rng1, q_rng2, q_zip, q_enm, q_T, q_sh, q_fr, q_pk, q_fsh, q_ffr, q_fpk, q_cnil, q_ccons, q_aanil, q_aash, q_aaio, q_gnil, q_gcons, q_pnm, q_pix, q_rsh, q_rfr, q_rpk, q_Nnil, q_Ncons, q_Pnil, q_Pcons, q_tsh, q_tfr, q_tpk, q_Sexpr, q_Sset, q_Spar, q_Sunp, q_Siff, q_Sret, q_SretN, q_Swipe, q_SSnil, q_SScons, q_at0, q_atS, q_wnil, q_wcons, q_bnm, q_btp, q_btl, q_snil, q_scons, q_comp, q_dcomp, q_onil, q_osh, q_oio, Option.bind_some, Option.map_some, Option.bind_none, Option.map_none, List.set_cons_zero, List.set_cons_succ, Tg.slots, muK, muF, if_true, Bool.false_eq_true, if_false, ix_0, ix_1, ix_2, ix_3, ix_4, ixt_0, ixt_1, sx_1, sx_2, sx_3, sx_4, eq_int, ne_int, lt_int, gt_int, le_int, ge_int, isin_ev, notin_ev, add_int, sub_int, pow_10_18, tr_bool, io_int, so_list, so_tup, len_list, len_tup, int_int, abs_int, tup_list, tup_tup, lst_list, lst_tup, apSlots, Bool.not_true, Bool.not_false, decide_true, decide_false, reduceIte, reduceCtorEq, Nat.reduceAdd, List.length_map])
    simp only [q_v, q_con, q_glo, q_no, q_tup, q_lst, q_dnk, q_op2, q_neg, q_cmp, q_cmp2, q_and, q_or, q_not, q_ite, q_bi, q_lrng, q_mu, q_call, q_ix, q_sl, q_rev, q_lnil, q_lcons, q_rnil, q_rcons, q_fnil, q_fcons, q_anil, q_aval, q_aio, q_seq, q_rng1, q_rng2, q_zip, q_enm, q_T, q_sh, q_fr, q_pk, q_fsh, q_ffr, q_fpk, q_cnil, q_ccons, q_aanil, q_aash, q_aaio, q_gnil, q_gcons, q_pnm, q_pix, q_rsh, q_rfr, q_rpk, q_Nnil, q_Ncons, q_Pnil, q_Pcons, q_tsh, q_tfr, q_tpk, q_Sexpr, q_Sset, q_Spar, q_Sunp, q_Siff, q_Sret, q_SretN, q_Swipe, q_SSnil, q_SScons, q_at0, q_atS, q_wnil, q_wcons, q_bnm, q_btp, q_btl, q_snil, q_scons, q_comp, q_dcomp, q_onil, q_osh, q_oio, Option.bind_some, Option.map_some, Option.bind_none, Option.map_none, List.set_cons_zero, List.set_cons_succ, Tg.slots, muK, muF, if_true, Bool.false_eq_true, if_false, ix_0, ix_1, ix_2, ix_3, ix_4, ixt_0, ixt_1, sx_1, sx_2, sx_3, sx_4, eq_int, ne_int, lt_int, gt_int, le_int, ge_int, isin_ev, notin_ev, add_int, sub_int, pow_10_18, tr_bool, io_int, so_list, so_tup, len_list, len_tup, int_int, abs_int, tup_list, tup_tup, lst_list, lst_tup, apSlots, Bool.not_true, Bool.not_false, decide_true, decide_false, reduceIte, reduceCtorEq, Nat.reduceAdd, List.length_map, e2, c2]
    rw [lawLots, List.map_map]
    rfl
  · subst hI
    have hmv : mv = m := by
      have := (List.getElem?_eq_some_iff.mp hm).2
      simpa using this.symm
    subst hmv
    have hmn : mv < n := by
      have := (List.getElem?_eq_some_iff.mp hm).1
      simpa using this
    have p2 : 2 ^ (mv + 1) ≤ 1048576 := Nat.le_trans (Nat.pow_le_pow_right (by omega) (by omega)) p20
    have c := comp_map (C := C) (elt := (.op2 .add (.v 4) (.tup (.cons (.v 2) .nil)))) (tg := .nm 4) (it := .seq (.v 1)) (ifs := .nil) (ρ := [.sh (.int n), .ow none (.list ((lotsM mv).map el)), .sh (.int (mv : Nat)), .un, .un]) (ρ1 := [.sh (.int n), .sh (.list ((lotsM mv).map el)), .sh (.int (mv : Nat)), .un, .un]) (as := lotsM mv) (T := el) (g := fun l => el (ex mv l)) (by simp only [q_v, q_con, q_glo, q_no, q_tup, q_lst, q_dnk, q_op2, q_neg, q_cmp, q_cmp2, q_and, q_or, q_not, q_ite, q_bi, q_lrng, q_mu, q_call, q_ix, q_sl, q_rev, q_lnil, q_lcons, q_rnil, q_rcons, q_fnil, q_fcons, q_anil, q_aval, q_aio, q_seq, q_rng1, q_rng2, q_zip, q_enm, q_T, q_sh, q_fr, q_pk, q_fsh, q_ffr, q_fpk, q_cnil, q_ccons, q_aanil, q_aash, q_aaio, q_gnil, q_gcons, q_pnm, q_pix, q_rsh, q_rfr, q_rpk, q_Nnil, q_Ncons, q_Pnil, q_Pcons, q_tsh, q_tfr, q_tpk, q_Sexpr, q_Sset, q_Spar, q_Sunp, q_Siff, q_Sret, q_SretN, q_Swipe, q_SSnil, q_SScons, q_at0, q_atS, q_wnil, q_wcons, q_bnm, q_btp, q_btl, q_snil, q_scons, q_comp, q_dcomp, q_onil, q_osh, q_oio, Option.bind_some, Option.map_some, Option.bind_none, Option.map_none, List.set_cons_zero, List.set_cons_succ, Tg.slots, muK, muF, if_true, Bool.false_eq_true, if_false, ix_0, ix_1, ix_2, ix_3, ix_4, ixt_0, ixt_1, sx_1, sx_2, sx_3, sx_4, eq_int, ne_int, lt_int, gt_int, le_int, ge_int, isin_ev, notin_ev, add_int, sub_int, pow_10_18, tr_bool, io_int, so_list, so_tup, len_list, len_tup, int_int, abs_int, tup_list, tup_tup, lst_list, lst_tup, apSlots, Bool.not_true, Bool.not_false, decide_true, decide_false, reduceIte, reduceCtorEq, Nat.reduceAdd, List.length_map]) (fun l hl => by
      have := lotsM_items hl
      rw [el_items]
      simp only [q_v, q_con, q_glo, q_no, q_tup, q_lst, q_dnk, q_op2, q_neg, q_cmp, q_cmp2, q_and, q_or, q_not, q_ite, q_bi, q_lrng, q_mu, q_call, q_ix, q_sl, q_rev, q_lnil, q_lcons, q_rnil, q_rcons, q_fnil, q_fcons, q_anil, q_aval, q_aio, q_seq, q_rng1, q_rng2, q_zip, q_enm, q_T, q_sh, q_fr, q_pk, q_fsh, q_ffr, q_fpk, q_cnil, q_ccons, q_aanil, q_aash, q_aaio, q_gnil, q_gcons, q_pnm, q_pix, q_rsh, q_rfr, q_rpk, q_Nnil, q_Ncons, q_Pnil, q_Pcons, q_tsh, q_tfr, q_tpk, q_Sexpr, q_Sset, q_Spar, q_Sunp, q_Siff, q_Sret, q_SretN, q_Swipe, q_SSnil, q_SScons, q_at0, q_atS, q_wnil, q_wcons, q_bnm, q_btp, q_btl, q_snil, q_scons, q_comp, q_dcomp, q_onil, q_osh, q_oio, Option.bind_some, Option.map_some, Option.bind_none, Option.map_none, List.set_cons_zero, List.set_cons_succ, Tg.slots, muK, muF, if_true, Bool.false_eq_true, if_false, ix_0, ix_1, ix_2, ix_3, ix_4, ixt_0, ixt_1, sx_1, sx_2, sx_3, sx_4, eq_int, ne_int, lt_int, gt_int, le_int, ge_int, isin_ev, notin_ev, add_int, sub_int, pow_10_18, tr_bool, io_int, so_list, so_tup, len_list, len_tup, int_int, abs_int, tup_list, tup_tup, lst_list, lst_tup, apSlots, Bool.not_true, Bool.not_false, decide_true, decide_false, reduceIte, reduceCtorEq, Nat.reduceAdd, List.length_map, cat_tup (show (l.items.map PyData.int).length + [PyData.int (mv : Nat)].length ≤ 16777216 by simp; omega)]
      rw [el_items, ex, List.map_append]
      rfl)
    refine ⟨_, ?_, rfl⟩
    simp only [q_v, q_con, q_glo, q_no, q_tup, q_lst, q_dnk, q_op2, q_neg, q_cmp, q_cmp2, q_and, q_or, q_not, q_ite, q_bi, q_lrng, q_mu, q_call, q_ix, q_sl, q_rev, q_lnil, q_lcons, q_rnil, q_rcons, q_fnil, q_fcons, q_anil, q_aval, q_aio, q_seq, q_rng1, q_rng2, q_zip, q_enm, q_T, q_sh, q_fr, q_pk, q_fsh, q_ffr, q_fpk, q_cnil, q_ccons, q_aanil, q_aash, q_aaio, q_gnil, q_gcons, q_pnm, q_pix, q_rsh, q_rfr, q_rpk, q_Nnil, q_Ncons, q_Pnil, q_Pcons, q_tsh, q_tfr, q_tpk, q_Sexpr, q_Sset, q_Spar, q_Sunp, q_Siff, q_Sret, q_SretN, q_Swipe, q_SSnil, q_SScons, q_at0, q_atS, q_wnil, q_wcons, q_bnm, q_btp, q_btl, q_snil, q_scons, q_comp, q_dcomp, q_onil, q_osh, q_oio, Option.bind_some, Option.map_some, Option.bind_none, Option.map_none, List.set_cons_zero, List.set_cons_succ, Tg.slots, muK, muF, if_true, Bool.false_eq_true, if_false, ix_0, ix_1, ix_2, ix_3, ix_4, ixt_0, ixt_1, sx_1, sx_2, sx_3, sx_4, eq_int, ne_int, lt_int, gt_int, le_int, ge_int, isin_ev, notin_ev, add_int, sub_int, pow_10_18, tr_bool, io_int, so_list, so_tup, len_list, len_tup, int_int, abs_int, tup_list, tup_tup, lst_list, lst_tup, apSlots, Bool.not_true, Bool.not_false, decide_true, decide_false, reduceIte, reduceCtorEq, Nat.reduceAdd, List.length_map, c, cat_list (show ((lotsM mv).map el).length + ((lotsM mv).map fun l => el (ex mv l)).length ≤ 16777216 by rw [List.length_map, List.length_map, lotsM_len]; rw [Nat.pow_succ] at p2; omega)]
    rw [lotsM, List.map_append, List.map_map]
    rfl
def LClosedOk (C : Ctx) (k : Nat) : Prop := ∀ (n : Nat) (ps : List PR), n ≤ 20 → C.cal k [.sh (ordD n ps)] = some (true, .list (((lawLots n).filter (clo ps)).map el), [])
theorem clo_alt (ps : List PR) (l : LT) : ((ps.filter fun p => decide (p.2 ∈ l.items)).all fun p => decide (p.1 ∈ l.items)) = clo ps l := by
  unfold clo
  induction ps with
  | nil => rfl
  | cons p ps ih =>
    rw [List.filter_cons, List.any_cons, Bool.not_or, ← ih]
    by_cases h : p.2 ∈ l.items
    · simp [h]
    · simp [h]
theorem lawLots_len (n : Nat) : (lawLots n).length = 2 ^ n := by rw [lawLots, List.length_map, srtT_len, List.length_map, lotsM_len]
theorem law_closed_ok {C : Ctx} {i_law_lots : Nat} (ha : LLotsOk C i_law_lots) {n : Nat} {ps : List PR} (hn : n ≤ 20) : callB C 5 (g_law_closed i_law_lots) [.sh (ordD n ps)] = some (true, .list (((lawLots n).filter (clo ps)).map el), []) := by
  unfold callB g_law_closed
  rw [show startE 5 [Ar.sh (ordD n ps)] = [.sh (.tuple [.int n, .tuple (ps.map en)]), .un, .un, .un, .un] from rfl]
  have p20 : 2 ^ n ≤ 1048576 := by
    have := Nat.pow_le_pow_right (n := 2) (by omega) hn
    simpa using this
  have hr : evI C (.seq (.call i_law_lots (.val (.ix (.v 0) (.con (.int 0))) .nil))) [.sh (.tuple [.int n, .tuple (ps.map en)]), .ow none (.list []), .un, .un, .un] = some ((lawLots n).map el, [.sh (.tuple [.int n, .tuple (ps.map en)]), .ow none (.list []), .un, .un, .un]) := by
    simp only [q_v, q_con, q_glo, q_no, q_tup, q_lst, q_dnk, q_op2, q_neg, q_cmp, q_cmp2, q_and, q_or, q_not, q_ite, q_bi, q_lrng, q_mu, q_call, q_ix, q_sl, q_rev, q_lnil, q_lcons, q_rnil, q_rcons, q_fnil, q_fcons, q_anil, q_aval, q_aio, q_seq, q_rng1, q_rng2, q_zip, q_enm, q_T, q_sh, q_fr, q_pk, q_fsh, q_ffr, q_fpk, q_cnil, q_ccons, q_aanil, q_aash, q_aaio, q_gnil, q_gcons, q_pnm, q_pix, q_rsh, q_rfr, q_rpk, q_Nnil, q_Ncons, q_Pnil, q_Pcons, q_tsh, q_tfr, q_tpk, q_Sexpr, q_Sset, q_Spar, q_Sunp, q_Siff, q_Sret, q_SretN, q_Swipe, q_SSnil, q_SScons, q_at0, q_atS, q_wnil, q_wcons, q_bnm, q_btp, q_btl, q_snil, q_scons, q_comp, q_dcomp, q_onil, q_osh, q_oio, Option.bind_some, Option.map_some, Option.bind_none, Option.map_none, List.set_cons_zero, List.set_cons_succ, Tg.slots, muK, muF, if_true, Bool.false_eq_true, if_false, ix_0, ix_1, ix_2, ix_3, ix_4, ixt_0, ixt_1, sx_1, sx_2, sx_3, sx_4, eq_int, ne_int, lt_int, gt_int, le_int, ge_int, isin_ev, notin_ev, add_int, sub_int, pow_10_18, tr_bool, io_int, so_list, so_tup, len_list, len_tup, int_int, abs_int, tup_list, tup_tup, lst_list, lst_tup, apSlots, Bool.not_true, Bool.not_false, decide_true, decide_false, reduceIte, reduceCtorEq, Nat.reduceAdd, List.length_map, ha n hn, List.nodup_nil]
  have w := for_go (C := C) (tg := .nm 2) (body := (.cons (.iff (.bi .all (.cons (.comp (.cmp .isin (.v 3) (.v 2)) (.tp [3, 4]) (.seq (.ix (.v 0) (.con (.int 1)))) (.cons (.cmp .isin (.v 4) (.v 2)) .nil)) .nil)) (.cons (.expr (.mu .append 1 (.cons (.v 2) .nil))) .nil) .nil) (.cons (.wipe [2]) .nil))) hr (fun i ρ => ρ = [.sh (.tuple [.int n, .tuple (ps.map en)]), .ow none (.list ((((lawLots n).take i).filter (clo ps)).map el)), .un, .un, .un]) rfl (fun i l ρ2 hl hI => ?_)
  · obtain ⟨ρ2, e2, rfl⟩ := w
    rw [List.take_length] at e2
    simp only [q_v, q_con, q_glo, q_no, q_tup, q_lst, q_dnk, q_op2, q_neg, q_cmp, q_cmp2, q_and, q_or, q_not, q_ite, q_bi, q_lrng, q_mu, q_call, q_ix, q_sl, q_rev, q_lnil, q_lcons, q_rnil, q_rcons, q_fnil, q_fcons, q_anil, q_aval, q_aio, q_seq, q_rng1, q_rng2, q_zip, q_enm, q_T, q_sh, q_fr, q_pk, q_fsh, q_ffr, q_fpk, q_cnil, q_ccons, q_aanil, q_aash, q_aaio, q_gnil, q_gcons, q_pnm, q_pix, q_rsh, q_rfr, q_rpk, q_Nnil, q_Ncons, q_Pnil, q_Pcons, q_tsh, q_tfr, q_tpk, q_Sexpr, q_Sset, q_Spar, q_Sunp, q_Siff, q_Sret, q_SretN, q_Swipe, q_SSnil, q_SScons, q_at0, q_atS, q_wnil, q_wcons, q_bnm, q_btp, q_btl, q_snil, q_scons, q_comp, q_dcomp, q_onil, q_osh, q_oio, Option.bind_some, Option.map_some, Option.bind_none, Option.map_none, List.set_cons_zero, List.set_cons_succ, Tg.slots, muK, muF, if_true, Bool.false_eq_true, if_false, ix_0, ix_1, ix_2, ix_3, ix_4, ixt_0, ixt_1, sx_1, sx_2, sx_3, sx_4, eq_int, ne_int, lt_int, gt_int, le_int, ge_int, isin_ev, notin_ev, add_int, sub_int, pow_10_18, tr_bool, io_int, so_list, so_tup, len_list, len_tup, int_int, abs_int, tup_list, tup_tup, lst_list, lst_tup, apSlots, Bool.not_true, Bool.not_false, decide_true, decide_false, reduceIte, reduceCtorEq, Nat.reduceAdd, List.length_map, e2]
  · subst hI
    have hlt := (List.getElem?_eq_some_iff.mp hl).1
    rw [lawLots_len] at hlt
    have c := comp_filter (C := C) (elt := (.cmp .isin (.v 3) (.v 2))) (tg := .tp [3, 4]) (it := (.seq (.ix (.v 0) (.con (.int 1))))) (ifs := (.cons (.cmp .isin (.v 4) (.v 2)) .nil)) (ρ := [.sh (.tuple [.int n, .tuple (ps.map en)]), .ow none (.list ((((lawLots n).take i).filter (clo ps)).map el)), .sh (el l), .un, .un]) (ρ1 := [.sh (.tuple [.int n, .tuple (ps.map en)]), .ow none (.list ((((lawLots n).take i).filter (clo ps)).map el)), .sh (el l), .un, .un])
      (as := ps) (T := en) (g := fun p => .bool (decide (p.1 ∈ l.items))) (p := fun p => decide (p.2 ∈ l.items)) (by simp only [q_v, q_con, q_glo, q_no, q_tup, q_lst, q_dnk, q_op2, q_neg, q_cmp, q_cmp2, q_and, q_or, q_not, q_ite, q_bi, q_lrng, q_mu, q_call, q_ix, q_sl, q_rev, q_lnil, q_lcons, q_rnil, q_rcons, q_fnil, q_fcons, q_anil, q_aval, q_aio, q_seq, q_rng1, q_rng2, q_zip, q_enm, q_T, q_sh, q_fr, q_pk, q_fsh, q_ffr, q_fpk, q_cnil, q_ccons, q_aanil, q_aash, q_aaio, q_gnil, q_gcons, q_pnm, q_pix, q_rsh, q_rfr, q_rpk, q_Nnil, q_Ncons, q_Pnil, q_Pcons, q_tsh, q_tfr, q_tpk, q_Sexpr, q_Sset, q_Spar, q_Sunp, q_Siff, q_Sret, q_SretN, q_Swipe, q_SSnil, q_SScons, q_at0, q_atS, q_wnil, q_wcons, q_bnm, q_btp, q_btl, q_snil, q_scons, q_comp, q_dcomp, q_onil, q_osh, q_oio, Option.bind_some, Option.map_some, Option.bind_none, Option.map_none, List.set_cons_zero, List.set_cons_succ, Tg.slots, muK, muF, if_true, Bool.false_eq_true, if_false, ix_0, ix_1, ix_2, ix_3, ix_4, ixt_0, ixt_1, sx_1, sx_2, sx_3, sx_4, eq_int, ne_int, lt_int, gt_int, le_int, ge_int, isin_ev, notin_ev, add_int, sub_int, pow_10_18, tr_bool, io_int, so_list, so_tup, len_list, len_tup, int_int, abs_int, tup_list, tup_tup, lst_list, lst_tup, apSlots, Bool.not_true, Bool.not_false, decide_true, decide_false, reduceIte, reduceCtorEq, Nat.reduceAdd, List.length_map]) (fun p _ => by
      obtain ⟨a, b⟩ := p
      rw [en_eq]
      by_cases h : b ∈ l.items
      · simp only [q_v, q_con, q_glo, q_no, q_tup, q_lst, q_dnk, q_op2, q_neg, q_cmp, q_cmp2, q_and, q_or, q_not, q_ite, q_bi, q_lrng, q_mu, q_call, q_ix, q_sl, q_rev, q_lnil, q_lcons, q_rnil, q_rcons, q_fnil, q_fcons, q_anil, q_aval, q_aio, q_seq, q_rng1, q_rng2, q_zip, q_enm, q_T, q_sh, q_fr, q_pk, q_fsh, q_ffr, q_fpk, q_cnil, q_ccons, q_aanil, q_aash, q_aaio, q_gnil, q_gcons, q_pnm, q_pix, q_rsh, q_rfr, q_rpk, q_Nnil, q_Ncons, q_Pnil, q_Pcons, q_tsh, q_tfr, q_tpk, q_Sexpr, q_Sset, q_Spar, q_Sunp, q_Siff, q_Sret, q_SretN, q_Swipe, q_SSnil, q_SScons, q_at0, q_atS, q_wnil, q_wcons, q_bnm, q_btp, q_btl, q_snil, q_scons, q_comp, q_dcomp, q_onil, q_osh, q_oio, Option.bind_some, Option.map_some, Option.bind_none, Option.map_none, List.set_cons_zero, List.set_cons_succ, Tg.slots, muK, muF, if_true, Bool.false_eq_true, if_false, ix_0, ix_1, ix_2, ix_3, ix_4, ixt_0, ixt_1, sx_1, sx_2, sx_3, sx_4, eq_int, ne_int, lt_int, gt_int, le_int, ge_int, isin_ev, notin_ev, add_int, sub_int, pow_10_18, tr_bool, io_int, so_list, so_tup, len_list, len_tup, int_int, abs_int, tup_list, tup_tup, lst_list, lst_tup, apSlots, Bool.not_true, Bool.not_false, decide_true, decide_false, reduceIte, reduceCtorEq, Nat.reduceAdd, List.length_map, in_el, decide_eq_true h]
      · simp only [q_v, q_con, q_glo, q_no, q_tup, q_lst, q_dnk, q_op2, q_neg, q_cmp, q_cmp2, q_and, q_or, q_not, q_ite, q_bi, q_lrng, q_mu, q_call, q_ix, q_sl, q_rev, q_lnil, q_lcons, q_rnil, q_rcons, q_fnil, q_fcons, q_anil, q_aval, q_aio, q_seq, q_rng1, q_rng2, q_zip, q_enm, q_T, q_sh, q_fr, q_pk, q_fsh, q_ffr, q_fpk, q_cnil, q_ccons, q_aanil, q_aash, q_aaio, q_gnil, q_gcons, q_pnm, q_pix, q_rsh, q_rfr, q_rpk, q_Nnil, q_Ncons, q_Pnil, q_Pcons, q_tsh, q_tfr, q_tpk, q_Sexpr, q_Sset, q_Spar, q_Sunp, q_Siff, q_Sret, q_SretN, q_Swipe, q_SSnil, q_SScons, q_at0, q_atS, q_wnil, q_wcons, q_bnm, q_btp, q_btl, q_snil, q_scons, q_comp, q_dcomp, q_onil, q_osh, q_oio, Option.bind_some, Option.map_some, Option.bind_none, Option.map_none, List.set_cons_zero, List.set_cons_succ, Tg.slots, muK, muF, if_true, Bool.false_eq_true, if_false, ix_0, ix_1, ix_2, ix_3, ix_4, ixt_0, ixt_1, sx_1, sx_2, sx_3, sx_4, eq_int, ne_int, lt_int, gt_int, le_int, ge_int, isin_ev, notin_ev, add_int, sub_int, pow_10_18, tr_bool, io_int, so_list, so_tup, len_list, len_tup, int_int, abs_int, tup_list, tup_tup, lst_list, lst_tup, apSlots, Bool.not_true, Bool.not_false, decide_true, decide_false, reduceIte, reduceCtorEq, Nat.reduceAdd, List.length_map, in_el, decide_eq_false h])
    have tk : ((lawLots n).take (i + 1)).filter (clo ps) = ((lawLots n).take i).filter (clo ps) ++ (if clo ps l = true then [l] else []) := by
      rw [List.take_succ, hl, List.filter_append]
      congr 1
      simp only [Option.toList, List.filter_cons, List.filter_nil]
    have sm : ((((lawLots n).take i).filter (clo ps)).map el).length < 16777216 := by
      rw [List.length_map]
      have := List.length_filter_le (clo ps) ((lawLots n).take i)
      rw [List.length_take, lawLots_len] at this
      omega
    refine ⟨_, ?_, rfl⟩
    rw [tk]
    by_cases hc : clo ps l = true
    · simp only [q_v, q_con, q_glo, q_no, q_tup, q_lst, q_dnk, q_op2, q_neg, q_cmp, q_cmp2, q_and, q_or, q_not, q_ite, q_bi, q_lrng, q_mu, q_call, q_ix, q_sl, q_rev, q_lnil, q_lcons, q_rnil, q_rcons, q_fnil, q_fcons, q_anil, q_aval, q_aio, q_seq, q_rng1, q_rng2, q_zip, q_enm, q_T, q_sh, q_fr, q_pk, q_fsh, q_ffr, q_fpk, q_cnil, q_ccons, q_aanil, q_aash, q_aaio, q_gnil, q_gcons, q_pnm, q_pix, q_rsh, q_rfr, q_rpk, q_Nnil, q_Ncons, q_Pnil, q_Pcons, q_tsh, q_tfr, q_tpk, q_Sexpr, q_Sset, q_Spar, q_Sunp, q_Siff, q_Sret, q_SretN, q_Swipe, q_SSnil, q_SScons, q_at0, q_atS, q_wnil, q_wcons, q_bnm, q_btp, q_btl, q_snil, q_scons, q_comp, q_dcomp, q_onil, q_osh, q_oio, Option.bind_some, Option.map_some, Option.bind_none, Option.map_none, List.set_cons_zero, List.set_cons_succ, Tg.slots, muK, muF, if_true, Bool.false_eq_true, if_false, ix_0, ix_1, ix_2, ix_3, ix_4, ixt_0, ixt_1, sx_1, sx_2, sx_3, sx_4, eq_int, ne_int, lt_int, gt_int, le_int, ge_int, isin_ev, notin_ev, add_int, sub_int, pow_10_18, tr_bool, io_int, so_list, so_tup, len_list, len_tup, int_int, abs_int, tup_list, tup_tup, lst_list, lst_tup, apSlots, Bool.not_true, Bool.not_false, decide_true, decide_false, reduceIte, reduceCtorEq, Nat.reduceAdd, List.length_map, c, all_map (fun p : PR => decide (p.1 ∈ l.items)), clo_alt, hc, app_ev sm]
      rw [List.map_append]
      rfl
    · have hc : clo ps l = false := by simpa using hc
      simp only [q_v, q_con, q_glo, q_no, q_tup, q_lst, q_dnk, q_op2, q_neg, q_cmp, q_cmp2, q_and, q_or, q_not, q_ite, q_bi, q_lrng, q_mu, q_call, q_ix, q_sl, q_rev, q_lnil, q_lcons, q_rnil, q_rcons, q_fnil, q_fcons, q_anil, q_aval, q_aio, q_seq, q_rng1, q_rng2, q_zip, q_enm, q_T, q_sh, q_fr, q_pk, q_fsh, q_ffr, q_fpk, q_cnil, q_ccons, q_aanil, q_aash, q_aaio, q_gnil, q_gcons, q_pnm, q_pix, q_rsh, q_rfr, q_rpk, q_Nnil, q_Ncons, q_Pnil, q_Pcons, q_tsh, q_tfr, q_tpk, q_Sexpr, q_Sset, q_Spar, q_Sunp, q_Siff, q_Sret, q_SretN, q_Swipe, q_SSnil, q_SScons, q_at0, q_atS, q_wnil, q_wcons, q_bnm, q_btp, q_btl, q_snil, q_scons, q_comp, q_dcomp, q_onil, q_osh, q_oio, Option.bind_some, Option.map_some, Option.bind_none, Option.map_none, List.set_cons_zero, List.set_cons_succ, Tg.slots, muK, muF, if_true, Bool.false_eq_true, if_false, ix_0, ix_1, ix_2, ix_3, ix_4, ixt_0, ixt_1, sx_1, sx_2, sx_3, sx_4, eq_int, ne_int, lt_int, gt_int, le_int, ge_int, isin_ev, notin_ev, add_int, sub_int, pow_10_18, tr_bool, io_int, so_list, so_tup, len_list, len_tup, int_int, abs_int, tup_list, tup_tup, lst_list, lst_tup, apSlots, Bool.not_true, Bool.not_false, decide_true, decide_false, reduceIte, reduceCtorEq, Nat.reduceAdd, List.length_map, c, all_map (fun p : PR => decide (p.1 ∈ l.items)), clo_alt, hc, List.append_nil]
/-! weights -/
def wsD (ws : List Int) : D := .tuple (ws.map PyData.int)
def wt (ws : List Int) (l : LT) : Int := (l.items.map fun z => ws.getD z.toNat 0).sum
def WtOk (C : Ctx) (k : Nat) : Prop := ∀ (ws : List Int) (l : LT), (∀ z ∈ l.items, 0 ≤ z ∧ z < ws.length) → C.cal k [.sh (wsD ws), .sh (el l)] = some (false, .int (wt ws l), [])
theorem weight_ok {C : Ctx} (ws : List Int) (l : LT) (h : ∀ z ∈ l.items, 0 ≤ z ∧ z < ws.length) : callB C 3 g_weight_of [.sh (wsD ws), .sh (el l)] = some (false, .int (wt ws l), []) := by
  unfold callB g_weight_of
  rw [show startE 3 [Ar.sh (wsD ws), .sh (el l)] = [.sh (wsD ws), .sh (.tuple (l.items.map PyData.int)), .un] from rfl]
  have c := comp_map (C := C) (elt := (.ix (.v 0) (.v 2))) (tg := .nm 2) (it := .seq (.v 1)) (ifs := .nil) (ρ := [.sh (wsD ws), .sh (.tuple (l.items.map PyData.int)), .un]) (ρ1 := [.sh (wsD ws), .sh (.tuple (l.items.map PyData.int)), .un]) (as := l.items) (T := PyData.int) (g := fun z => .int (ws.getD z.toNat 0)) (by simp only [q_v, q_con, q_glo, q_no, q_tup, q_lst, q_dnk, q_op2, q_neg, q_cmp, q_cmp2, q_and, q_or, q_not, q_ite, q_bi, q_lrng, q_mu, q_call, q_ix, q_sl, q_rev, q_lnil, q_lcons, q_rnil, q_rcons, q_fnil, q_fcons, q_anil, q_aval, q_aio, q_seq, q_rng1, q_rng2, q_zip, q_enm, q_T, q_sh, q_fr, q_pk, q_fsh, q_ffr, q_fpk, q_cnil, q_ccons, q_aanil, q_aash, q_aaio, q_gnil, q_gcons, q_pnm, q_pix, q_rsh, q_rfr, q_rpk, q_Nnil, q_Ncons, q_Pnil, q_Pcons, q_tsh, q_tfr, q_tpk, q_Sexpr, q_Sset, q_Spar, q_Sunp, q_Siff, q_Sret, q_SretN, q_Swipe, q_SSnil, q_SScons, q_at0, q_atS, q_wnil, q_wcons, q_bnm, q_btp, q_btl, q_snil, q_scons, q_comp, q_dcomp, q_onil, q_osh, q_oio, Option.bind_some, Option.map_some, Option.bind_none, Option.map_none, List.set_cons_zero, List.set_cons_succ, Tg.slots, muK, muF, if_true, Bool.false_eq_true, if_false, ix_0, ix_1, ix_2, ix_3, ix_4, ixt_0, ixt_1, sx_1, sx_2, sx_3, sx_4, eq_int, ne_int, lt_int, gt_int, le_int, ge_int, isin_ev, notin_ev, add_int, sub_int, pow_10_18, tr_bool, io_int, so_list, so_tup, len_list, len_tup, int_int, abs_int, tup_list, tup_tup, lst_list, lst_tup, apSlots, Bool.not_true, Bool.not_false, decide_true, decide_false, reduceIte, reduceCtorEq, Nat.reduceAdd, List.length_map]) (fun z hz => by
    obtain ⟨h1, h2⟩ := h z hz
    have : ixEv (wsD ws) (.int z) = some (.int (ws.getD z.toNat 0)) := by
      have := ix_tuple (xs := ws.map PyData.int) (k := z.toNat) (d := .int (ws.getD z.toNat 0)) (by
        rw [List.getElem?_map, List.getD_eq_getElem?_getD, List.getElem?_eq_getElem (by omega)]
        rfl)
      rw [show ((z.toNat : Nat) : Int) = z by omega] at this
      exact this
    simp only [q_v, q_con, q_glo, q_no, q_tup, q_lst, q_dnk, q_op2, q_neg, q_cmp, q_cmp2, q_and, q_or, q_not, q_ite, q_bi, q_lrng, q_mu, q_call, q_ix, q_sl, q_rev, q_lnil, q_lcons, q_rnil, q_rcons, q_fnil, q_fcons, q_anil, q_aval, q_aio, q_seq, q_rng1, q_rng2, q_zip, q_enm, q_T, q_sh, q_fr, q_pk, q_fsh, q_ffr, q_fpk, q_cnil, q_ccons, q_aanil, q_aash, q_aaio, q_gnil, q_gcons, q_pnm, q_pix, q_rsh, q_rfr, q_rpk, q_Nnil, q_Ncons, q_Pnil, q_Pcons, q_tsh, q_tfr, q_tpk, q_Sexpr, q_Sset, q_Spar, q_Sunp, q_Siff, q_Sret, q_SretN, q_Swipe, q_SSnil, q_SScons, q_at0, q_atS, q_wnil, q_wcons, q_bnm, q_btp, q_btl, q_snil, q_scons, q_comp, q_dcomp, q_onil, q_osh, q_oio, Option.bind_some, Option.map_some, Option.bind_none, Option.map_none, List.set_cons_zero, List.set_cons_succ, Tg.slots, muK, muF, if_true, Bool.false_eq_true, if_false, ix_0, ix_1, ix_2, ix_3, ix_4, ixt_0, ixt_1, sx_1, sx_2, sx_3, sx_4, eq_int, ne_int, lt_int, gt_int, le_int, ge_int, isin_ev, notin_ev, add_int, sub_int, pow_10_18, tr_bool, io_int, so_list, so_tup, len_list, len_tup, int_int, abs_int, tup_list, tup_tup, lst_list, lst_tup, apSlots, Bool.not_true, Bool.not_false, decide_true, decide_false, reduceIte, reduceCtorEq, Nat.reduceAdd, List.length_map, this])
  simp only [q_v, q_con, q_glo, q_no, q_tup, q_lst, q_dnk, q_op2, q_neg, q_cmp, q_cmp2, q_and, q_or, q_not, q_ite, q_bi, q_lrng, q_mu, q_call, q_ix, q_sl, q_rev, q_lnil, q_lcons, q_rnil, q_rcons, q_fnil, q_fcons, q_anil, q_aval, q_aio, q_seq, q_rng1, q_rng2, q_zip, q_enm, q_T, q_sh, q_fr, q_pk, q_fsh, q_ffr, q_fpk, q_cnil, q_ccons, q_aanil, q_aash, q_aaio, q_gnil, q_gcons, q_pnm, q_pix, q_rsh, q_rfr, q_rpk, q_Nnil, q_Ncons, q_Pnil, q_Pcons, q_tsh, q_tfr, q_tpk, q_Sexpr, q_Sset, q_Spar, q_Sunp, q_Siff, q_Sret, q_SretN, q_Swipe, q_SSnil, q_SScons, q_at0, q_atS, q_wnil, q_wcons, q_bnm, q_btp, q_btl, q_snil, q_scons, q_comp, q_dcomp, q_onil, q_osh, q_oio, Option.bind_some, Option.map_some, Option.bind_none, Option.map_none, List.set_cons_zero, List.set_cons_succ, Tg.slots, muK, muF, if_true, Bool.false_eq_true, if_false, ix_0, ix_1, ix_2, ix_3, ix_4, ixt_0, ixt_1, sx_1, sx_2, sx_3, sx_4, eq_int, ne_int, lt_int, gt_int, le_int, ge_int, isin_ev, notin_ev, add_int, sub_int, pow_10_18, tr_bool, io_int, so_list, so_tup, len_list, len_tup, int_int, abs_int, tup_list, tup_tup, lst_list, lst_tup, apSlots, Bool.not_true, Bool.not_false, decide_true, decide_false, reduceIte, reduceCtorEq, Nat.reduceAdd, List.length_map, c, sum_map (fun z : Int => ws.getD z.toNat 0)]
  rfl
end PI

set_option Elab.async false
set_option linter.all false
set_option maxRecDepth 100000
set_option maxHeartbeats 4000000
/-! QH: weights, best lots. -/
namespace PI
set_option autoImplicit false
open PySem PySem.W
def g_are_weights_of (i_is_sized i_is_within : Nat) : Ss := (.cons (.ret (.and (.call i_is_sized (.val (.v 1) (.val (.ix (.v 0) (.con (.int 0))) (.val (.ix (.v 0) (.con (.int 0))) .nil)))) (.bi .all (.cons (.comp (.call i_is_within (.val (.v 2) (.val (.op2 .sub (.con (.int 0)) (.glo "MOST_WEIGHT" (.int 1000))) (.val (.glo "MOST_WEIGHT" (.int 1000)) .nil)))) (.nm 2) (.seq (.v 1)) .nil) .nil)))) .nil)
def g_check_weights (i_check_order i_are_weights_of : Nat) : Ss := (.cons (.expr (.call i_check_order (.val (.v 0) .nil))) (.cons (.iff (.not (.call i_are_weights_of (.val (.v 0) (.val (.v 1) .nil)))) (.cons .bad .nil) .nil) .nil))
def g_best_of (i_weight_of i_closed_lots : Nat) : Ss := (.cons (.ret (.bi .mx (.cons (.comp (.call i_weight_of (.val (.v 1) (.val (.v 2) .nil))) (.nm 2) (.seq (.call i_closed_lots (.val (.v 0) .nil))) .nil) .nil))) .nil)
def g_bests_of (i_best_of i_closed_lots i_weight_of : Nat) : Ss := (.cons (.set (.nm 2) (.call i_best_of (.val (.v 0) (.val (.v 1) .nil)))) (.cons (.ret (.comp (.v 3) (.nm 3) (.seq (.call i_closed_lots (.val (.v 0) .nil))) (.cons (.cmp .eq (.call i_weight_of (.val (.v 1) (.val (.v 3) .nil))) (.v 2)) .nil))) .nil))
def g_least_best (i_check_weights i_bests_of : Nat) : Ss := (.cons (.expr (.call i_check_weights (.val (.v 0) (.val (.v 1) .nil)))) (.cons (.ret (.ix (.bi .mn (.cons (.comp (.tup (.cons (.bi .len (.cons (.v 2) .nil)) (.cons (.v 2) .nil))) (.nm 2) (.seq (.call i_bests_of (.val (.v 0) (.val (.v 1) .nil)))) .nil) .nil)) (.con (.int 1)))) .nil))
def g_greatest_in : Ss := (.cons (.ret (.ix (.bi .mx (.cons (.comp (.tup (.cons (.bi .len (.cons (.v 1) .nil)) (.cons (.v 1) .nil))) (.nm 1) (.seq (.v 0)) .nil) .nil)) (.con (.int 1)))) .nil)
def g_greatest_best (i_check_weights i_greatest_in i_bests_of : Nat) : Ss := (.cons (.expr (.call i_check_weights (.val (.v 0) (.val (.v 1) .nil)))) (.cons (.ret (.call i_greatest_in (.val (.call i_bests_of (.val (.v 0) (.val (.v 1) .nil))) .nil))) .nil))
def g_all_best (i_check_weights i_bests_of : Nat) : Ss := (.cons (.expr (.call i_check_weights (.val (.v 0) (.val (.v 1) .nil)))) (.cons (.ret (.bi .tup (.cons (.call i_bests_of (.val (.v 0) (.val (.v 1) .nil))) .nil))) .nil))
def g_in_all (i_check_weights i_is_within i_bests_of : Nat) : Ss := (.cons (.expr (.call i_check_weights (.val (.v 0) (.val (.v 1) .nil)))) (.cons (.iff (.not (.call i_is_within (.val (.v 2) (.val (.con (.int 0)) (.val (.op2 .sub (.ix (.v 0) (.con (.int 0))) (.con (.int 1))) .nil))))) (.cons .bad .nil) .nil) (.cons (.set (.nm 3) (.comp (.cmp .isin (.v 2) (.v 4)) (.nm 4) (.seq (.call i_bests_of (.val (.v 0) (.val (.v 1) .nil)))) .nil)) (.cons (.ret (.ite (.bi .all (.cons (.v 3) .nil)) (.con (.str "always")) (.ite (.bi .any (.cons (.v 3) .nil)) (.con (.str "sometimes")) (.con (.str "never"))))) .nil))))
def g_law_is (i_law_is : Nat) : Ss := (.cons (.iff (.bi (.isi [.tuple, .list]) (.cons (.v 1) .nil)) (.cons (.iff (.or (.cmp .ne (.bi (.isi [.tuple]) (.cons (.v 0) .nil)) (.bi (.isi [.tuple]) (.cons (.v 1) .nil))) (.not (.bi (.isi [.tuple, .list]) (.cons (.v 0) .nil)))) (.cons (.ret (.con (.bool false))) .nil) .nil) (.cons (.ret (.and (.cmp .eq (.bi .len (.cons (.v 0) .nil)) (.bi .len (.cons (.v 1) .nil))) (.bi .all (.cons (.comp (.call i_law_is (.val (.v 3) (.val (.v 4) .nil))) (.tp [3, 4]) (.zip (.v 0) (.v 1)) .nil) .nil)))) .nil)) .nil) (.cons (.iff (.bi (.isi [.dict]) (.cons (.v 1) .nil)) (.cons (.iff (.or (.not (.bi (.isi [.dict]) (.cons (.v 0) .nil))) (.cmp .ne (.bi .len (.cons (.v 0) .nil)) (.bi .len (.cons (.v 1) .nil)))) (.cons (.ret (.con (.bool false))) .nil) .nil) (.cons (.ret (.bi .all (.cons (.comp (.and (.cmp .isin (.v 2) (.v 0)) (.call i_law_is (.val (.ix (.v 0) (.v 2)) (.val (.ix (.v 1) (.v 2)) .nil)))) (.nm 2) (.seq (.v 1)) .nil) .nil))) .nil)) .nil) (.cons (.iff (.or (.bi (.isi [.str]) (.cons (.v 1) .nil)) (.cmp .is_ (.v 1) (.con .none))) (.cons (.ret (.and (.cmp .eq (.bi (.isi [.str]) (.cons (.v 0) .nil)) (.bi (.isi [.str]) (.cons (.v 1) .nil))) (.cmp .eq (.v 0) (.v 1)))) .nil) .nil) (.cons (.ret (.and (.bi (.isi [.int]) (.cons (.v 0) .nil)) (.and (.cmp .eq (.bi (.isi [.bool]) (.cons (.v 0) .nil)) (.bi (.isi [.bool]) (.cons (.v 1) .nil))) (.cmp .eq (.v 0) (.v 1))))) .nil))))
def g_law_weights (i_law_some : Nat) : Ss := (.cons (.set (.nm 2) (.lst (.cons (.con (.int 0)) (.cons (.con (.int 1)) (.cons (.con (.int 2)) (.cons (.con (.int 3)) (.cons (.con (.int 5)) (.cons (.con (.int 7)) (.cons (.con (.int 10)) (.cons (.neg (.con (.int 1))) (.cons (.neg (.con (.int 2))) (.cons (.neg (.con (.int 3))) (.cons (.neg (.con (.int 5))) (.cons (.neg (.con (.int 8))) (.cons (.neg (.con (.int 10))) (.cons (.con (.int 1000)) (.cons (.neg (.con (.int 1000))) .nil))))))))))))))))) (.cons (.ret (.bi .tup (.cons (.comp (.call i_law_some (.io 0 (.val (.v 2) .nil))) (.nm 3) (.rng1 (.v 1)) .nil) .nil))) .nil))
structure WsOk (n : Nat) (ws : List Int) : Prop where
  len : ws.length = n
  wn : ∀ w ∈ ws, -1000 ≤ w ∧ w ≤ 1000
def AreWOk (C : Ctx) (k : Nat) : Prop := ∀ (n : Nat) (ps : List PR) (ws : List Int), WsOk n ws → C.cal k [.sh (ordD n ps), .sh (wsD ws)] = some (false, .bool true, [])
theorem are_weights_ok {C : Ctx} {i_is_sized i_is_within : Nat} (hs : SizedOk C i_is_sized) (hw : WithinOk C i_is_within) {n : Nat} {ps : List PR} {ws : List Int} (h : WsOk n ws) :
    callB C 3 (g_are_weights_of i_is_sized i_is_within) [.sh (ordD n ps), .sh (wsD ws)] = some (false, .bool true, []) := by
  unfold callB g_are_weights_of
  rw [show startE 3 [Ar.sh (ordD n ps), .sh (wsD ws)] = [.sh (.tuple [.int n, .tuple (ps.map en)]), .sh (.tuple (ws.map PyData.int)), .un] from rfl]
  have s := hs (ws.map PyData.int) n n
  rw [List.length_map, h.len, decide_eq_true (Int.le_refl _)] at s
  have c := comp_map (C := C) (elt := (.call i_is_within (.val (.v 2) (.val (.op2 .sub (.con (.int 0)) (.glo "MOST_WEIGHT" (.int 1000))) (.val (.glo "MOST_WEIGHT" (.int 1000)) .nil))))) (tg := .nm 2) (it := .seq (.v 1)) (ifs := .nil) (ρ := [.sh (.tuple [.int n, .tuple (ps.map en)]), .sh (.tuple (ws.map PyData.int)), .un]) (ρ1 := [.sh (.tuple [.int n, .tuple (ps.map en)]), .sh (.tuple (ws.map PyData.int)), .un]) (as := ws) (T := PyData.int) (g := fun _ => .bool true) (by simp only [q_v, q_con, q_glo, q_no, q_tup, q_lst, q_dnk, q_op2, q_neg, q_cmp, q_cmp2, q_and, q_or, q_not, q_ite, q_bi, q_lrng, q_mu, q_call, q_ix, q_sl, q_rev, q_lnil, q_lcons, q_rnil, q_rcons, q_fnil, q_fcons, q_anil, q_aval, q_aio, q_seq, q_rng1, q_rng2, q_zip, q_enm, q_T, q_sh, q_fr, q_pk, q_fsh, q_ffr, q_fpk, q_cnil, q_ccons, q_aanil, q_aash, q_aaio, q_gnil, q_gcons, q_pnm, q_pix, q_rsh, q_rfr, q_rpk, q_Nnil, q_Ncons, q_Pnil, q_Pcons, q_tsh, q_tfr, q_tpk, q_Sexpr, q_Sset, q_Spar, q_Sunp, q_Siff, q_Sret, q_SretN, q_Swipe, q_SSnil, q_SScons, q_at0, q_atS, q_wnil, q_wcons, q_bnm, q_btp, q_btl, q_snil, q_scons, q_comp, q_dcomp, q_onil, q_osh, q_oio, Option.bind_some, Option.map_some, Option.bind_none, Option.map_none, List.set_cons_zero, List.set_cons_succ, Tg.slots, muK, muF, if_true, Bool.false_eq_true, if_false, ix_0, ix_1, ix_2, ix_3, ix_4, ixt_0, ixt_1, sx_1, sx_2, sx_3, sx_4, eq_int, ne_int, lt_int, gt_int, le_int, ge_int, isin_ev, notin_ev, add_int, sub_int, pow_10_18, tr_bool, io_int, so_list, so_tup, len_list, len_tup, int_int, abs_int, tup_list, tup_tup, lst_list, lst_tup, apSlots, Bool.not_true, Bool.not_false, decide_true, decide_false, reduceIte, reduceCtorEq, Nat.reduceAdd, List.length_map]) (fun w hw' => by
    obtain ⟨h1, h2⟩ := h.wn w hw'
    have q := hw w (0 - 1000) 1000
    rw [decide_eq_true (show (0 - 1000 : Int) ≤ w by omega), decide_eq_true h2] at q
    simp only [q_v, q_con, q_glo, q_no, q_tup, q_lst, q_dnk, q_op2, q_neg, q_cmp, q_cmp2, q_and, q_or, q_not, q_ite, q_bi, q_lrng, q_mu, q_call, q_ix, q_sl, q_rev, q_lnil, q_lcons, q_rnil, q_rcons, q_fnil, q_fcons, q_anil, q_aval, q_aio, q_seq, q_rng1, q_rng2, q_zip, q_enm, q_T, q_sh, q_fr, q_pk, q_fsh, q_ffr, q_fpk, q_cnil, q_ccons, q_aanil, q_aash, q_aaio, q_gnil, q_gcons, q_pnm, q_pix, q_rsh, q_rfr, q_rpk, q_Nnil, q_Ncons, q_Pnil, q_Pcons, q_tsh, q_tfr, q_tpk, q_Sexpr, q_Sset, q_Spar, q_Sunp, q_Siff, q_Sret, q_SretN, q_Swipe, q_SSnil, q_SScons, q_at0, q_atS, q_wnil, q_wcons, q_bnm, q_btp, q_btl, q_snil, q_scons, q_comp, q_dcomp, q_onil, q_osh, q_oio, Option.bind_some, Option.map_some, Option.bind_none, Option.map_none, List.set_cons_zero, List.set_cons_succ, Tg.slots, muK, muF, if_true, Bool.false_eq_true, if_false, ix_0, ix_1, ix_2, ix_3, ix_4, ixt_0, ixt_1, sx_1, sx_2, sx_3, sx_4, eq_int, ne_int, lt_int, gt_int, le_int, ge_int, isin_ev, notin_ev, add_int, sub_int, pow_10_18, tr_bool, io_int, so_list, so_tup, len_list, len_tup, int_int, abs_int, tup_list, tup_tup, lst_list, lst_tup, apSlots, Bool.not_true, Bool.not_false, decide_true, decide_false, reduceIte, reduceCtorEq, Nat.reduceAdd, List.length_map, q, List.nodup_nil, Bool.and_self])
  simp only [q_v, q_con, q_glo, q_no, q_tup, q_lst, q_dnk, q_op2, q_neg, q_cmp, q_cmp2, q_and, q_or, q_not, q_ite, q_bi, q_lrng, q_mu, q_call, q_ix, q_sl, q_rev, q_lnil, q_lcons, q_rnil, q_rcons, q_fnil, q_fcons, q_anil, q_aval, q_aio, q_seq, q_rng1, q_rng2, q_zip, q_enm, q_T, q_sh, q_fr, q_pk, q_fsh, q_ffr, q_fpk, q_cnil, q_ccons, q_aanil, q_aash, q_aaio, q_gnil, q_gcons, q_pnm, q_pix, q_rsh, q_rfr, q_rpk, q_Nnil, q_Ncons, q_Pnil, q_Pcons, q_tsh, q_tfr, q_tpk, q_Sexpr, q_Sset, q_Spar, q_Sunp, q_Siff, q_Sret, q_SretN, q_Swipe, q_SSnil, q_SScons, q_at0, q_atS, q_wnil, q_wcons, q_bnm, q_btp, q_btl, q_snil, q_scons, q_comp, q_dcomp, q_onil, q_osh, q_oio, Option.bind_some, Option.map_some, Option.bind_none, Option.map_none, List.set_cons_zero, List.set_cons_succ, Tg.slots, muK, muF, if_true, Bool.false_eq_true, if_false, ix_0, ix_1, ix_2, ix_3, ix_4, ixt_0, ixt_1, sx_1, sx_2, sx_3, sx_4, eq_int, ne_int, lt_int, gt_int, le_int, ge_int, isin_ev, notin_ev, add_int, sub_int, pow_10_18, tr_bool, io_int, so_list, so_tup, len_list, len_tup, int_int, abs_int, tup_list, tup_tup, lst_list, lst_tup, apSlots, Bool.not_true, Bool.not_false, decide_true, decide_false, reduceIte, reduceCtorEq, Nat.reduceAdd, List.length_map, s, List.nodup_nil, Bool.and_self, c, all_true]
def ChkWOk (C : Ctx) (k : Nat) : Prop := ∀ (n : Nat) (ps : List PR) (ws : List Int), 1 ≤ n → n ≤ 7 → IsOrd n ps → WsOk n ws → C.cal k [.sh (ordD n ps), .sh (wsD ws)] = some (false, .none, [])
theorem check_weights_ok {C : Ctx} {i_check_order i_are_weights_of : Nat} (hc : ChkOk C i_check_order) (ha : AreWOk C i_are_weights_of) {n : Nat} {ps : List PR} {ws : List Int} (h1 : 1 ≤ n) (h2 : n ≤ 7) (ho : IsOrd n ps) (h : WsOk n ws) :
    callB C 2 (g_check_weights i_check_order i_are_weights_of) [.sh (ordD n ps), .sh (wsD ws)] = some (false, .none, []) := by
  unfold callB g_check_weights
  rw [show startE 2 [Ar.sh (ordD n ps), .sh (wsD ws)] = [.sh (ordD n ps), .sh (wsD ws)] from rfl]
  simp only [q_v, q_con, q_glo, q_no, q_tup, q_lst, q_dnk, q_op2, q_neg, q_cmp, q_cmp2, q_and, q_or, q_not, q_ite, q_bi, q_lrng, q_mu, q_call, q_ix, q_sl, q_rev, q_lnil, q_lcons, q_rnil, q_rcons, q_fnil, q_fcons, q_anil, q_aval, q_aio, q_seq, q_rng1, q_rng2, q_zip, q_enm, q_T, q_sh, q_fr, q_pk, q_fsh, q_ffr, q_fpk, q_cnil, q_ccons, q_aanil, q_aash, q_aaio, q_gnil, q_gcons, q_pnm, q_pix, q_rsh, q_rfr, q_rpk, q_Nnil, q_Ncons, q_Pnil, q_Pcons, q_tsh, q_tfr, q_tpk, q_Sexpr, q_Sset, q_Spar, q_Sunp, q_Siff, q_Sret, q_SretN, q_Swipe, q_SSnil, q_SScons, q_at0, q_atS, q_wnil, q_wcons, q_bnm, q_btp, q_btl, q_snil, q_scons, q_comp, q_dcomp, q_onil, q_osh, q_oio, Option.bind_some, Option.map_some, Option.bind_none, Option.map_none, List.set_cons_zero, List.set_cons_succ, Tg.slots, muK, muF, if_true, Bool.false_eq_true, if_false, ix_0, ix_1, ix_2, ix_3, ix_4, ixt_0, ixt_1, sx_1, sx_2, sx_3, sx_4, eq_int, ne_int, lt_int, gt_int, le_int, ge_int, isin_ev, notin_ev, add_int, sub_int, pow_10_18, tr_bool, io_int, so_list, so_tup, len_list, len_tup, int_int, abs_int, tup_list, tup_tup, lst_list, lst_tup, apSlots, Bool.not_true, Bool.not_false, decide_true, decide_false, reduceIte, reduceCtorEq, Nat.reduceAdd, List.length_map, hc n ps h1 h2 ho, ha n ps ws h, List.nodup_nil]
/-! best lots -/
def closedP (n : Nat) (ps : List PR) : List LT := (srtT (lotsM n)).filter (clo ps)
theorem clo_empty (ps : List PR) : clo ps ⟨[]⟩ = true := by simp [clo]
theorem empty_in (n : Nat) : (⟨[]⟩ : LT) ∈ lotsM n := lotsM_mem.mpr ⟨List.Pairwise.nil, nofun⟩
theorem closedP_ne (n : Nat) (ps : List PR) : closedP n ps ≠ [] := fun e => by
  have : (⟨[]⟩ : LT) ∈ closedP n ps := List.mem_filter.mpr ⟨srtT_mem.mpr (empty_in n), clo_empty ps⟩
  rw [e] at this
  cases this
theorem closedP_mem {n : Nat} {ps : List PR} {l : LT} : l ∈ closedP n ps ↔ l ∈ lotsM n ∧ clo ps l = true := by
  unfold closedP
  rw [List.mem_filter, srtT_mem]
def maxI : List Int → Int
  | [] => 0
  | x :: xs => maxOf x xs
theorem maxI_perm {xs ys : List Int} (p : xs.Perm ys) : maxI xs = maxI ys := by
  cases xs with
  | nil => rw [p.nil_eq]
  | cons x xs =>
    cases ys with
    | nil => exact absurd p.symm.nil_eq nofun
    | cons y ys => exact maxOf_perm p
theorem maxI_ok {xs : List Int} (h : xs ≠ []) : maxI xs ∈ xs ∧ ∀ y ∈ xs, y ≤ maxI xs := by
  cases xs with
  | nil => exact absurd rfl h
  | cons x xs =>
    obtain ⟨a, b⟩ := maxOf_ok x xs
    refine ⟨a, fun y hy => ?_⟩
    have := b y hy
    have : (!decide (maxOf x xs < y)) = true := this
    show y ≤ maxOf x xs
    simp only [Bool.not_eq_true', decide_eq_false_iff_not] at this
    omega
theorem mx_ints {xs : List Int} (h : xs ≠ []) : biEv .mx [.list (xs.map PyData.int)] = some (.sh (.int (maxI xs))) := by
  cases xs with
  | nil => exact absurd rfl h
  | cons x xs => exact mx_enc (α := Int) (by decide) x xs
def bestP (n : Nat) (ps : List PR) (ws : List Int) : Int := maxI ((closedP n ps).map (wt ws))
def bestsP (n : Nat) (ps : List PR) (ws : List Int) : List LT := (closedP n ps).filter fun l => decide (wt ws l = bestP n ps ws)
theorem wt_in {n : Nat} {ws : List Int} {l : LT} (h : WsOk n ws) (hl : l ∈ lotsM n) : ∀ z ∈ l.items, 0 ≤ z ∧ z < ws.length := fun z hz => by
  have := (lotsM_mem.mp hl).2 z hz
  rw [h.len]; exact this
def BestOk (C : Ctx) (k : Nat) : Prop := ∀ (n : Nat) (ps : List PR) (ws : List Int), n ≤ 20 → WsOk n ws → C.cal k [.sh (ordD n ps), .sh (wsD ws)] = some (false, .int (bestP n ps ws), [])
theorem best_ok {C : Ctx} {i_weight_of i_closed_lots : Nat} (hw : WtOk C i_weight_of) (hc : ClosedOk C i_closed_lots) {n : Nat} {ps : List PR} {ws : List Int} (hn : n ≤ 20) (h : WsOk n ws) :
    callB C 3 (g_best_of i_weight_of i_closed_lots) [.sh (ordD n ps), .sh (wsD ws)] = some (false, .int (bestP n ps ws), []) := by
  unfold callB g_best_of
  rw [show startE 3 [Ar.sh (ordD n ps), .sh (wsD ws)] = [.sh (ordD n ps), .sh (wsD ws), .un] from rfl]
  have c := comp_map (C := C) (elt := (.call i_weight_of (.val (.v 1) (.val (.v 2) .nil)))) (tg := .nm 2) (it := (.seq (.call i_closed_lots (.val (.v 0) .nil)))) (ifs := .nil) (ρ := [.sh (ordD n ps), .sh (wsD ws), .un]) (ρ1 := [.sh (ordD n ps), .sh (wsD ws), .un]) (as := closedP n ps) (T := el) (g := fun l => .int (wt ws l)) (by
    simp only [q_v, q_con, q_glo, q_no, q_tup, q_lst, q_dnk, q_op2, q_neg, q_cmp, q_cmp2, q_and, q_or, q_not, q_ite, q_bi, q_lrng, q_mu, q_call, q_ix, q_sl, q_rev, q_lnil, q_lcons, q_rnil, q_rcons, q_fnil, q_fcons, q_anil, q_aval, q_aio, q_seq, q_rng1, q_rng2, q_zip, q_enm, q_T, q_sh, q_fr, q_pk, q_fsh, q_ffr, q_fpk, q_cnil, q_ccons, q_aanil, q_aash, q_aaio, q_gnil, q_gcons, q_pnm, q_pix, q_rsh, q_rfr, q_rpk, q_Nnil, q_Ncons, q_Pnil, q_Pcons, q_tsh, q_tfr, q_tpk, q_Sexpr, q_Sset, q_Spar, q_Sunp, q_Siff, q_Sret, q_SretN, q_Swipe, q_SSnil, q_SScons, q_at0, q_atS, q_wnil, q_wcons, q_bnm, q_btp, q_btl, q_snil, q_scons, q_comp, q_dcomp, q_onil, q_osh, q_oio, Option.bind_some, Option.map_some, Option.bind_none, Option.map_none, List.set_cons_zero, List.set_cons_succ, Tg.slots, muK, muF, if_true, Bool.false_eq_true, if_false, ix_0, ix_1, ix_2, ix_3, ix_4, ixt_0, ixt_1, sx_1, sx_2, sx_3, sx_4, eq_int, ne_int, lt_int, gt_int, le_int, ge_int, isin_ev, notin_ev, add_int, sub_int, pow_10_18, tr_bool, io_int, so_list, so_tup, len_list, len_tup, int_int, abs_int, tup_list, tup_tup, lst_list, lst_tup, apSlots, Bool.not_true, Bool.not_false, decide_true, decide_false, reduceIte, reduceCtorEq, Nat.reduceAdd, List.length_map, hc n ps hn, List.nodup_nil]
    rfl) (fun l hl => by
    simp only [q_v, q_con, q_glo, q_no, q_tup, q_lst, q_dnk, q_op2, q_neg, q_cmp, q_cmp2, q_and, q_or, q_not, q_ite, q_bi, q_lrng, q_mu, q_call, q_ix, q_sl, q_rev, q_lnil, q_lcons, q_rnil, q_rcons, q_fnil, q_fcons, q_anil, q_aval, q_aio, q_seq, q_rng1, q_rng2, q_zip, q_enm, q_T, q_sh, q_fr, q_pk, q_fsh, q_ffr, q_fpk, q_cnil, q_ccons, q_aanil, q_aash, q_aaio, q_gnil, q_gcons, q_pnm, q_pix, q_rsh, q_rfr, q_rpk, q_Nnil, q_Ncons, q_Pnil, q_Pcons, q_tsh, q_tfr, q_tpk, q_Sexpr, q_Sset, q_Spar, q_Sunp, q_Siff, q_Sret, q_SretN, q_Swipe, q_SSnil, q_SScons, q_at0, q_atS, q_wnil, q_wcons, q_bnm, q_btp, q_btl, q_snil, q_scons, q_comp, q_dcomp, q_onil, q_osh, q_oio, Option.bind_some, Option.map_some, Option.bind_none, Option.map_none, List.set_cons_zero, List.set_cons_succ, Tg.slots, muK, muF, if_true, Bool.false_eq_true, if_false, ix_0, ix_1, ix_2, ix_3, ix_4, ixt_0, ixt_1, sx_1, sx_2, sx_3, sx_4, eq_int, ne_int, lt_int, gt_int, le_int, ge_int, isin_ev, notin_ev, add_int, sub_int, pow_10_18, tr_bool, io_int, so_list, so_tup, len_list, len_tup, int_int, abs_int, tup_list, tup_tup, lst_list, lst_tup, apSlots, Bool.not_true, Bool.not_false, decide_true, decide_false, reduceIte, reduceCtorEq, Nat.reduceAdd, List.length_map, hw ws l (wt_in h (closedP_mem.mp hl).1), List.nodup_nil])
  have m := mx_ints (xs := (closedP n ps).map (wt ws)) (by simpa using closedP_ne n ps)
  rw [List.map_map] at m
  rw [show (fun l => PyData.int (wt ws l)) = PyData.int ∘ wt ws from rfl] at c
  simp only [q_v, q_con, q_glo, q_no, q_tup, q_lst, q_dnk, q_op2, q_neg, q_cmp, q_cmp2, q_and, q_or, q_not, q_ite, q_bi, q_lrng, q_mu, q_call, q_ix, q_sl, q_rev, q_lnil, q_lcons, q_rnil, q_rcons, q_fnil, q_fcons, q_anil, q_aval, q_aio, q_seq, q_rng1, q_rng2, q_zip, q_enm, q_T, q_sh, q_fr, q_pk, q_fsh, q_ffr, q_fpk, q_cnil, q_ccons, q_aanil, q_aash, q_aaio, q_gnil, q_gcons, q_pnm, q_pix, q_rsh, q_rfr, q_rpk, q_Nnil, q_Ncons, q_Pnil, q_Pcons, q_tsh, q_tfr, q_tpk, q_Sexpr, q_Sset, q_Spar, q_Sunp, q_Siff, q_Sret, q_SretN, q_Swipe, q_SSnil, q_SScons, q_at0, q_atS, q_wnil, q_wcons, q_bnm, q_btp, q_btl, q_snil, q_scons, q_comp, q_dcomp, q_onil, q_osh, q_oio, Option.bind_some, Option.map_some, Option.bind_none, Option.map_none, List.set_cons_zero, List.set_cons_succ, Tg.slots, muK, muF, if_true, Bool.false_eq_true, if_false, ix_0, ix_1, ix_2, ix_3, ix_4, ixt_0, ixt_1, sx_1, sx_2, sx_3, sx_4, eq_int, ne_int, lt_int, gt_int, le_int, ge_int, isin_ev, notin_ev, add_int, sub_int, pow_10_18, tr_bool, io_int, so_list, so_tup, len_list, len_tup, int_int, abs_int, tup_list, tup_tup, lst_list, lst_tup, apSlots, Bool.not_true, Bool.not_false, decide_true, decide_false, reduceIte, reduceCtorEq, Nat.reduceAdd, List.length_map, c, m]
  rfl
def BestsOk (C : Ctx) (k : Nat) : Prop := ∀ (n : Nat) (ps : List PR) (ws : List Int), n ≤ 20 → WsOk n ws → C.cal k [.sh (ordD n ps), .sh (wsD ws)] = some (true, .list ((bestsP n ps ws).map el), [])
theorem bests_ok {C : Ctx} {i_best_of i_closed_lots i_weight_of : Nat} (hb : BestOk C i_best_of) (hw : WtOk C i_weight_of) (hc : ClosedOk C i_closed_lots) {n : Nat} {ps : List PR} {ws : List Int} (hn : n ≤ 20) (h : WsOk n ws) :
    callB C 4 (g_bests_of i_best_of i_closed_lots i_weight_of) [.sh (ordD n ps), .sh (wsD ws)] = some (true, .list ((bestsP n ps ws).map el), []) := by
  unfold callB g_bests_of
  rw [show startE 4 [Ar.sh (ordD n ps), .sh (wsD ws)] = [.sh (ordD n ps), .sh (wsD ws), .un, .un] from rfl]
  have c := comp_filter (C := C) (elt := .v 3) (tg := .nm 3) (it := (.seq (.call i_closed_lots (.val (.v 0) .nil)))) (ifs := (.cons (.cmp .eq (.call i_weight_of (.val (.v 1) (.val (.v 3) .nil))) (.v 2)) .nil)) (ρ := [.sh (ordD n ps), .sh (wsD ws), .sh (.int (bestP n ps ws)), .un]) (ρ1 := [.sh (ordD n ps), .sh (wsD ws), .sh (.int (bestP n ps ws)), .un]) (as := closedP n ps) (T := el) (g := el) (p := fun l => decide (wt ws l = bestP n ps ws)) (by
    simp only [q_v, q_con, q_glo, q_no, q_tup, q_lst, q_dnk, q_op2, q_neg, q_cmp, q_cmp2, q_and, q_or, q_not, q_ite, q_bi, q_lrng, q_mu, q_call, q_ix, q_sl, q_rev, q_lnil, q_lcons, q_rnil, q_rcons, q_fnil, q_fcons, q_anil, q_aval, q_aio, q_seq, q_rng1, q_rng2, q_zip, q_enm, q_T, q_sh, q_fr, q_pk, q_fsh, q_ffr, q_fpk, q_cnil, q_ccons, q_aanil, q_aash, q_aaio, q_gnil, q_gcons, q_pnm, q_pix, q_rsh, q_rfr, q_rpk, q_Nnil, q_Ncons, q_Pnil, q_Pcons, q_tsh, q_tfr, q_tpk, q_Sexpr, q_Sset, q_Spar, q_Sunp, q_Siff, q_Sret, q_SretN, q_Swipe, q_SSnil, q_SScons, q_at0, q_atS, q_wnil, q_wcons, q_bnm, q_btp, q_btl, q_snil, q_scons, q_comp, q_dcomp, q_onil, q_osh, q_oio, Option.bind_some, Option.map_some, Option.bind_none, Option.map_none, List.set_cons_zero, List.set_cons_succ, Tg.slots, muK, muF, if_true, Bool.false_eq_true, if_false, ix_0, ix_1, ix_2, ix_3, ix_4, ixt_0, ixt_1, sx_1, sx_2, sx_3, sx_4, eq_int, ne_int, lt_int, gt_int, le_int, ge_int, isin_ev, notin_ev, add_int, sub_int, pow_10_18, tr_bool, io_int, so_list, so_tup, len_list, len_tup, int_int, abs_int, tup_list, tup_tup, lst_list, lst_tup, apSlots, Bool.not_true, Bool.not_false, decide_true, decide_false, reduceIte, reduceCtorEq, Nat.reduceAdd, List.length_map, hc n ps hn, List.nodup_nil]
    rfl) (fun l hl => by
    by_cases q : wt ws l = bestP n ps ws
    · simp only [q_v, q_con, q_glo, q_no, q_tup, q_lst, q_dnk, q_op2, q_neg, q_cmp, q_cmp2, q_and, q_or, q_not, q_ite, q_bi, q_lrng, q_mu, q_call, q_ix, q_sl, q_rev, q_lnil, q_lcons, q_rnil, q_rcons, q_fnil, q_fcons, q_anil, q_aval, q_aio, q_seq, q_rng1, q_rng2, q_zip, q_enm, q_T, q_sh, q_fr, q_pk, q_fsh, q_ffr, q_fpk, q_cnil, q_ccons, q_aanil, q_aash, q_aaio, q_gnil, q_gcons, q_pnm, q_pix, q_rsh, q_rfr, q_rpk, q_Nnil, q_Ncons, q_Pnil, q_Pcons, q_tsh, q_tfr, q_tpk, q_Sexpr, q_Sset, q_Spar, q_Sunp, q_Siff, q_Sret, q_SretN, q_Swipe, q_SSnil, q_SScons, q_at0, q_atS, q_wnil, q_wcons, q_bnm, q_btp, q_btl, q_snil, q_scons, q_comp, q_dcomp, q_onil, q_osh, q_oio, Option.bind_some, Option.map_some, Option.bind_none, Option.map_none, List.set_cons_zero, List.set_cons_succ, Tg.slots, muK, muF, if_true, Bool.false_eq_true, if_false, ix_0, ix_1, ix_2, ix_3, ix_4, ixt_0, ixt_1, sx_1, sx_2, sx_3, sx_4, eq_int, ne_int, lt_int, gt_int, le_int, ge_int, isin_ev, notin_ev, add_int, sub_int, pow_10_18, tr_bool, io_int, so_list, so_tup, len_list, len_tup, int_int, abs_int, tup_list, tup_tup, lst_list, lst_tup, apSlots, Bool.not_true, Bool.not_false, decide_true, decide_false, reduceIte, reduceCtorEq, Nat.reduceAdd, List.length_map, hw ws l (wt_in h (closedP_mem.mp hl).1), List.nodup_nil, decide_eq_true q]
    · simp only [q_v, q_con, q_glo, q_no, q_tup, q_lst, q_dnk, q_op2, q_neg, q_cmp, q_cmp2, q_and, q_or, q_not, q_ite, q_bi, q_lrng, q_mu, q_call, q_ix, q_sl, q_rev, q_lnil, q_lcons, q_rnil, q_rcons, q_fnil, q_fcons, q_anil, q_aval, q_aio, q_seq, q_rng1, q_rng2, q_zip, q_enm, q_T, q_sh, q_fr, q_pk, q_fsh, q_ffr, q_fpk, q_cnil, q_ccons, q_aanil, q_aash, q_aaio, q_gnil, q_gcons, q_pnm, q_pix, q_rsh, q_rfr, q_rpk, q_Nnil, q_Ncons, q_Pnil, q_Pcons, q_tsh, q_tfr, q_tpk, q_Sexpr, q_Sset, q_Spar, q_Sunp, q_Siff, q_Sret, q_SretN, q_Swipe, q_SSnil, q_SScons, q_at0, q_atS, q_wnil, q_wcons, q_bnm, q_btp, q_btl, q_snil, q_scons, q_comp, q_dcomp, q_onil, q_osh, q_oio, Option.bind_some, Option.map_some, Option.bind_none, Option.map_none, List.set_cons_zero, List.set_cons_succ, Tg.slots, muK, muF, if_true, Bool.false_eq_true, if_false, ix_0, ix_1, ix_2, ix_3, ix_4, ixt_0, ixt_1, sx_1, sx_2, sx_3, sx_4, eq_int, ne_int, lt_int, gt_int, le_int, ge_int, isin_ev, notin_ev, add_int, sub_int, pow_10_18, tr_bool, io_int, so_list, so_tup, len_list, len_tup, int_int, abs_int, tup_list, tup_tup, lst_list, lst_tup, apSlots, Bool.not_true, Bool.not_false, decide_true, decide_false, reduceIte, reduceCtorEq, Nat.reduceAdd, List.length_map, hw ws l (wt_in h (closedP_mem.mp hl).1), List.nodup_nil, decide_eq_false q])
  simp only [q_v, q_con, q_glo, q_no, q_tup, q_lst, q_dnk, q_op2, q_neg, q_cmp, q_cmp2, q_and, q_or, q_not, q_ite, q_bi, q_lrng, q_mu, q_call, q_ix, q_sl, q_rev, q_lnil, q_lcons, q_rnil, q_rcons, q_fnil, q_fcons, q_anil, q_aval, q_aio, q_seq, q_rng1, q_rng2, q_zip, q_enm, q_T, q_sh, q_fr, q_pk, q_fsh, q_ffr, q_fpk, q_cnil, q_ccons, q_aanil, q_aash, q_aaio, q_gnil, q_gcons, q_pnm, q_pix, q_rsh, q_rfr, q_rpk, q_Nnil, q_Ncons, q_Pnil, q_Pcons, q_tsh, q_tfr, q_tpk, q_Sexpr, q_Sset, q_Spar, q_Sunp, q_Siff, q_Sret, q_SretN, q_Swipe, q_SSnil, q_SScons, q_at0, q_atS, q_wnil, q_wcons, q_bnm, q_btp, q_btl, q_snil, q_scons, q_comp, q_dcomp, q_onil, q_osh, q_oio, Option.bind_some, Option.map_some, Option.bind_none, Option.map_none, List.set_cons_zero, List.set_cons_succ, Tg.slots, muK, muF, if_true, Bool.false_eq_true, if_false, ix_0, ix_1, ix_2, ix_3, ix_4, ixt_0, ixt_1, sx_1, sx_2, sx_3, sx_4, eq_int, ne_int, lt_int, gt_int, le_int, ge_int, isin_ev, notin_ev, add_int, sub_int, pow_10_18, tr_bool, io_int, so_list, so_tup, len_list, len_tup, int_int, abs_int, tup_list, tup_tup, lst_list, lst_tup, apSlots, Bool.not_true, Bool.not_false, decide_true, decide_false, reduceIte, reduceCtorEq, Nat.reduceAdd, List.length_map, hb n ps ws hn h, List.nodup_nil, c]
  rfl
def hdT (xs : List (Int × LT)) : LT := match xs with
  | [] => ⟨[]⟩
  | x :: xs => (minOf x xs).2
def lsT (xs : List (Int × LT)) : LT := match xs with
  | [] => ⟨[]⟩
  | x :: xs => (maxOf x xs).2
theorem bestsP_ne {n : Nat} {ps : List PR} {ws : List Int} : bestsP n ps ws ≠ [] := fun e => by
  have h := (maxI_ok (xs := (closedP n ps).map (wt ws)) (by simpa using closedP_ne n ps)).1
  obtain ⟨l, h1, h2⟩ := List.mem_map.mp h
  have : l ∈ bestsP n ps ws := List.mem_filter.mpr ⟨h1, decide_eq_true h2⟩
  rw [e] at this
  cases this
theorem mn_pick {xs : List LT} (h : xs ≠ []) : biEv .mn [.list (xs.map fun l => Datum.toD (sz l))] = some (.sh (.tuple [.int (minOf (sz (xs.head h)) (xs.tail.map sz)).1, el (hdT (xs.map sz))])) := by
  cases xs with
  | nil => exact absurd rfl h
  | cons x xs =>
    have := mn_enc (α := Int × LT) (by decide) (sz x) (xs.map sz)
    rw [show (x :: xs).map (fun l => Datum.toD (sz l)) = ((sz x) :: xs.map sz).map Datum.toD by simp [List.map_map]]
    exact this
theorem mx_pick {xs : List LT} (h : xs ≠ []) : biEv .mx [.list (xs.map fun l => Datum.toD (sz l))] = some (.sh (.tuple [.int (maxOf (sz (xs.head h)) (xs.tail.map sz)).1, el (lsT (xs.map sz))])) := by
  cases xs with
  | nil => exact absurd rfl h
  | cons x xs =>
    have := mx_enc (α := Int × LT) (by decide) (sz x) (xs.map sz)
    rw [show (x :: xs).map (fun l => Datum.toD (sz l)) = ((sz x) :: xs.map sz).map Datum.toD by simp [List.map_map]]
    exact this
def LeastOk (C : Ctx) (k : Nat) : Prop := ∀ (n : Nat) (ps : List PR) (ws : List Int), 1 ≤ n → n ≤ 7 → IsOrd n ps → WsOk n ws → C.cal k [.sh (ordD n ps), .sh (wsD ws)] = some (false, el (hdT ((bestsP n ps ws).map sz)), [])
theorem least_ok {C : Ctx} {i_check_weights i_bests_of : Nat} (hk : ChkWOk C i_check_weights) (hb : BestsOk C i_bests_of) {n : Nat} {ps : List PR} {ws : List Int} (h1 : 1 ≤ n) (h2 : n ≤ 7) (ho : IsOrd n ps) (h : WsOk n ws) :
    callB C 3 (g_least_best i_check_weights i_bests_of) [.sh (ordD n ps), .sh (wsD ws)] = some (false, el (hdT ((bestsP n ps ws).map sz)), []) := by
  unfold callB g_least_best
  rw [show startE 3 [Ar.sh (ordD n ps), .sh (wsD ws)] = [.sh (ordD n ps), .sh (wsD ws), .un] from rfl]
  have c := comp_map (C := C) (elt := (.tup (.cons (.bi .len (.cons (.v 2) .nil)) (.cons (.v 2) .nil)))) (tg := .nm 2) (it := (.seq (.call i_bests_of (.val (.v 0) (.val (.v 1) .nil))))) (ifs := .nil) (ρ := [.sh (ordD n ps), .sh (wsD ws), .un]) (ρ1 := [.sh (ordD n ps), .sh (wsD ws), .un]) (as := bestsP n ps ws) (T := el) (g := fun l => Datum.toD (sz l)) (by
    simp only [q_v, q_con, q_glo, q_no, q_tup, q_lst, q_dnk, q_op2, q_neg, q_cmp, q_cmp2, q_and, q_or, q_not, q_ite, q_bi, q_lrng, q_mu, q_call, q_ix, q_sl, q_rev, q_lnil, q_lcons, q_rnil, q_rcons, q_fnil, q_fcons, q_anil, q_aval, q_aio, q_seq, q_rng1, q_rng2, q_zip, q_enm, q_T, q_sh, q_fr, q_pk, q_fsh, q_ffr, q_fpk, q_cnil, q_ccons, q_aanil, q_aash, q_aaio, q_gnil, q_gcons, q_pnm, q_pix, q_rsh, q_rfr, q_rpk, q_Nnil, q_Ncons, q_Pnil, q_Pcons, q_tsh, q_tfr, q_tpk, q_Sexpr, q_Sset, q_Spar, q_Sunp, q_Siff, q_Sret, q_SretN, q_Swipe, q_SSnil, q_SScons, q_at0, q_atS, q_wnil, q_wcons, q_bnm, q_btp, q_btl, q_snil, q_scons, q_comp, q_dcomp, q_onil, q_osh, q_oio, Option.bind_some, Option.map_some, Option.bind_none, Option.map_none, List.set_cons_zero, List.set_cons_succ, Tg.slots, muK, muF, if_true, Bool.false_eq_true, if_false, ix_0, ix_1, ix_2, ix_3, ix_4, ixt_0, ixt_1, sx_1, sx_2, sx_3, sx_4, eq_int, ne_int, lt_int, gt_int, le_int, ge_int, isin_ev, notin_ev, add_int, sub_int, pow_10_18, tr_bool, io_int, so_list, so_tup, len_list, len_tup, int_int, abs_int, tup_list, tup_tup, lst_list, lst_tup, apSlots, Bool.not_true, Bool.not_false, decide_true, decide_false, reduceIte, reduceCtorEq, Nat.reduceAdd, List.length_map, hb n ps ws (by omega) h, List.nodup_nil]) (fun l hl => by
    rw [el_items]
    simp only [q_v, q_con, q_glo, q_no, q_tup, q_lst, q_dnk, q_op2, q_neg, q_cmp, q_cmp2, q_and, q_or, q_not, q_ite, q_bi, q_lrng, q_mu, q_call, q_ix, q_sl, q_rev, q_lnil, q_lcons, q_rnil, q_rcons, q_fnil, q_fcons, q_anil, q_aval, q_aio, q_seq, q_rng1, q_rng2, q_zip, q_enm, q_T, q_sh, q_fr, q_pk, q_fsh, q_ffr, q_fpk, q_cnil, q_ccons, q_aanil, q_aash, q_aaio, q_gnil, q_gcons, q_pnm, q_pix, q_rsh, q_rfr, q_rpk, q_Nnil, q_Ncons, q_Pnil, q_Pcons, q_tsh, q_tfr, q_tpk, q_Sexpr, q_Sset, q_Spar, q_Sunp, q_Siff, q_Sret, q_SretN, q_Swipe, q_SSnil, q_SScons, q_at0, q_atS, q_wnil, q_wcons, q_bnm, q_btp, q_btl, q_snil, q_scons, q_comp, q_dcomp, q_onil, q_osh, q_oio, Option.bind_some, Option.map_some, Option.bind_none, Option.map_none, List.set_cons_zero, List.set_cons_succ, Tg.slots, muK, muF, if_true, Bool.false_eq_true, if_false, ix_0, ix_1, ix_2, ix_3, ix_4, ixt_0, ixt_1, sx_1, sx_2, sx_3, sx_4, eq_int, ne_int, lt_int, gt_int, le_int, ge_int, isin_ev, notin_ev, add_int, sub_int, pow_10_18, tr_bool, io_int, so_list, so_tup, len_list, len_tup, int_int, abs_int, tup_list, tup_tup, lst_list, lst_tup, apSlots, Bool.not_true, Bool.not_false, decide_true, decide_false, reduceIte, reduceCtorEq, Nat.reduceAdd, List.length_map]
    rfl)
  simp only [q_v, q_con, q_glo, q_no, q_tup, q_lst, q_dnk, q_op2, q_neg, q_cmp, q_cmp2, q_and, q_or, q_not, q_ite, q_bi, q_lrng, q_mu, q_call, q_ix, q_sl, q_rev, q_lnil, q_lcons, q_rnil, q_rcons, q_fnil, q_fcons, q_anil, q_aval, q_aio, q_seq, q_rng1, q_rng2, q_zip, q_enm, q_T, q_sh, q_fr, q_pk, q_fsh, q_ffr, q_fpk, q_cnil, q_ccons, q_aanil, q_aash, q_aaio, q_gnil, q_gcons, q_pnm, q_pix, q_rsh, q_rfr, q_rpk, q_Nnil, q_Ncons, q_Pnil, q_Pcons, q_tsh, q_tfr, q_tpk, q_Sexpr, q_Sset, q_Spar, q_Sunp, q_Siff, q_Sret, q_SretN, q_Swipe, q_SSnil, q_SScons, q_at0, q_atS, q_wnil, q_wcons, q_bnm, q_btp, q_btl, q_snil, q_scons, q_comp, q_dcomp, q_onil, q_osh, q_oio, Option.bind_some, Option.map_some, Option.bind_none, Option.map_none, List.set_cons_zero, List.set_cons_succ, Tg.slots, muK, muF, if_true, Bool.false_eq_true, if_false, ix_0, ix_1, ix_2, ix_3, ix_4, ixt_0, ixt_1, sx_1, sx_2, sx_3, sx_4, eq_int, ne_int, lt_int, gt_int, le_int, ge_int, isin_ev, notin_ev, add_int, sub_int, pow_10_18, tr_bool, io_int, so_list, so_tup, len_list, len_tup, int_int, abs_int, tup_list, tup_tup, lst_list, lst_tup, apSlots, Bool.not_true, Bool.not_false, decide_true, decide_false, reduceIte, reduceCtorEq, Nat.reduceAdd, List.length_map, hk n ps ws h1 h2 ho h, List.nodup_nil, c, mn_pick bestsP_ne]
def GreatInOk (C : Ctx) (k : Nat) : Prop := ∀ xs : List LT, xs ≠ [] → C.cal k [.sh (.list (xs.map el))] = some (false, el (lsT (xs.map sz)), [])
theorem great_in_ok {C : Ctx} {xs : List LT} (h : xs ≠ []) : callB C 2 g_greatest_in [.sh (.list (xs.map el))] = some (false, el (lsT (xs.map sz)), []) := by
  unfold callB g_greatest_in
  rw [show startE 2 [Ar.sh (.list (xs.map el))] = [.sh (.list (xs.map el)), .un] from rfl]
  have c := comp_map (C := C) (elt := (.tup (.cons (.bi .len (.cons (.v 1) .nil)) (.cons (.v 1) .nil)))) (tg := .nm 1) (it := .seq (.v 0)) (ifs := .nil) (ρ := [.sh (.list (xs.map el)), .un]) (ρ1 := [.sh (.list (xs.map el)), .un]) (as := xs) (T := el) (g := fun l => Datum.toD (sz l)) (by simp only [q_v, q_con, q_glo, q_no, q_tup, q_lst, q_dnk, q_op2, q_neg, q_cmp, q_cmp2, q_and, q_or, q_not, q_ite, q_bi, q_lrng, q_mu, q_call, q_ix, q_sl, q_rev, q_lnil, q_lcons, q_rnil, q_rcons, q_fnil, q_fcons, q_anil, q_aval, q_aio, q_seq, q_rng1, q_rng2, q_zip, q_enm, q_T, q_sh, q_fr, q_pk, q_fsh, q_ffr, q_fpk, q_cnil, q_ccons, q_aanil, q_aash, q_aaio, q_gnil, q_gcons, q_pnm, q_pix, q_rsh, q_rfr, q_rpk, q_Nnil, q_Ncons, q_Pnil, q_Pcons, q_tsh, q_tfr, q_tpk, q_Sexpr, q_Sset, q_Spar, q_Sunp, q_Siff, q_Sret, q_SretN, q_Swipe, q_SSnil, q_SScons, q_at0, q_atS, q_wnil, q_wcons, q_bnm, q_btp, q_btl, q_snil, q_scons, q_comp, q_dcomp, q_onil, q_osh, q_oio, Option.bind_some, Option.map_some, Option.bind_none, Option.map_none, List.set_cons_zero, List.set_cons_succ, Tg.slots, muK, muF, if_true, Bool.false_eq_true, if_false, ix_0, ix_1, ix_2, ix_3, ix_4, ixt_0, ixt_1, sx_1, sx_2, sx_3, sx_4, eq_int, ne_int, lt_int, gt_int, le_int, ge_int, isin_ev, notin_ev, add_int, sub_int, pow_10_18, tr_bool, io_int, so_list, so_tup, len_list, len_tup, int_int, abs_int, tup_list, tup_tup, lst_list, lst_tup, apSlots, Bool.not_true, Bool.not_false, decide_true, decide_false, reduceIte, reduceCtorEq, Nat.reduceAdd, List.length_map]) (fun l hl => by
    rw [el_items]
    simp only [q_v, q_con, q_glo, q_no, q_tup, q_lst, q_dnk, q_op2, q_neg, q_cmp, q_cmp2, q_and, q_or, q_not, q_ite, q_bi, q_lrng, q_mu, q_call, q_ix, q_sl, q_rev, q_lnil, q_lcons, q_rnil, q_rcons, q_fnil, q_fcons, q_anil, q_aval, q_aio, q_seq, q_rng1, q_rng2, q_zip, q_enm, q_T, q_sh, q_fr, q_pk, q_fsh, q_ffr, q_fpk, q_cnil, q_ccons, q_aanil, q_aash, q_aaio, q_gnil, q_gcons, q_pnm, q_pix, q_rsh, q_rfr, q_rpk, q_Nnil, q_Ncons, q_Pnil, q_Pcons, q_tsh, q_tfr, q_tpk, q_Sexpr, q_Sset, q_Spar, q_Sunp, q_Siff, q_Sret, q_SretN, q_Swipe, q_SSnil, q_SScons, q_at0, q_atS, q_wnil, q_wcons, q_bnm, q_btp, q_btl, q_snil, q_scons, q_comp, q_dcomp, q_onil, q_osh, q_oio, Option.bind_some, Option.map_some, Option.bind_none, Option.map_none, List.set_cons_zero, List.set_cons_succ, Tg.slots, muK, muF, if_true, Bool.false_eq_true, if_false, ix_0, ix_1, ix_2, ix_3, ix_4, ixt_0, ixt_1, sx_1, sx_2, sx_3, sx_4, eq_int, ne_int, lt_int, gt_int, le_int, ge_int, isin_ev, notin_ev, add_int, sub_int, pow_10_18, tr_bool, io_int, so_list, so_tup, len_list, len_tup, int_int, abs_int, tup_list, tup_tup, lst_list, lst_tup, apSlots, Bool.not_true, Bool.not_false, decide_true, decide_false, reduceIte, reduceCtorEq, Nat.reduceAdd, List.length_map]
    rfl)
  simp only [q_v, q_con, q_glo, q_no, q_tup, q_lst, q_dnk, q_op2, q_neg, q_cmp, q_cmp2, q_and, q_or, q_not, q_ite, q_bi, q_lrng, q_mu, q_call, q_ix, q_sl, q_rev, q_lnil, q_lcons, q_rnil, q_rcons, q_fnil, q_fcons, q_anil, q_aval, q_aio, q_seq, q_rng1, q_rng2, q_zip, q_enm, q_T, q_sh, q_fr, q_pk, q_fsh, q_ffr, q_fpk, q_cnil, q_ccons, q_aanil, q_aash, q_aaio, q_gnil, q_gcons, q_pnm, q_pix, q_rsh, q_rfr, q_rpk, q_Nnil, q_Ncons, q_Pnil, q_Pcons, q_tsh, q_tfr, q_tpk, q_Sexpr, q_Sset, q_Spar, q_Sunp, q_Siff, q_Sret, q_SretN, q_Swipe, q_SSnil, q_SScons, q_at0, q_atS, q_wnil, q_wcons, q_bnm, q_btp, q_btl, q_snil, q_scons, q_comp, q_dcomp, q_onil, q_osh, q_oio, Option.bind_some, Option.map_some, Option.bind_none, Option.map_none, List.set_cons_zero, List.set_cons_succ, Tg.slots, muK, muF, if_true, Bool.false_eq_true, if_false, ix_0, ix_1, ix_2, ix_3, ix_4, ixt_0, ixt_1, sx_1, sx_2, sx_3, sx_4, eq_int, ne_int, lt_int, gt_int, le_int, ge_int, isin_ev, notin_ev, add_int, sub_int, pow_10_18, tr_bool, io_int, so_list, so_tup, len_list, len_tup, int_int, abs_int, tup_list, tup_tup, lst_list, lst_tup, apSlots, Bool.not_true, Bool.not_false, decide_true, decide_false, reduceIte, reduceCtorEq, Nat.reduceAdd, List.length_map, c, mx_pick h]
def GreatOk (C : Ctx) (k : Nat) : Prop := ∀ (n : Nat) (ps : List PR) (ws : List Int), 1 ≤ n → n ≤ 7 → IsOrd n ps → WsOk n ws → C.cal k [.sh (ordD n ps), .sh (wsD ws)] = some (false, el (lsT ((bestsP n ps ws).map sz)), [])
theorem great_ok {C : Ctx} {i_check_weights i_greatest_in i_bests_of : Nat} (hk : ChkWOk C i_check_weights) (hg : GreatInOk C i_greatest_in) (hb : BestsOk C i_bests_of) {n : Nat} {ps : List PR} {ws : List Int} (h1 : 1 ≤ n) (h2 : n ≤ 7) (ho : IsOrd n ps) (h : WsOk n ws) :
    callB C 2 (g_greatest_best i_check_weights i_greatest_in i_bests_of) [.sh (ordD n ps), .sh (wsD ws)] = some (false, el (lsT ((bestsP n ps ws).map sz)), []) := by
  unfold callB g_greatest_best
  rw [show startE 2 [Ar.sh (ordD n ps), .sh (wsD ws)] = [.sh (ordD n ps), .sh (wsD ws)] from rfl]
  simp only [q_v, q_con, q_glo, q_no, q_tup, q_lst, q_dnk, q_op2, q_neg, q_cmp, q_cmp2, q_and, q_or, q_not, q_ite, q_bi, q_lrng, q_mu, q_call, q_ix, q_sl, q_rev, q_lnil, q_lcons, q_rnil, q_rcons, q_fnil, q_fcons, q_anil, q_aval, q_aio, q_seq, q_rng1, q_rng2, q_zip, q_enm, q_T, q_sh, q_fr, q_pk, q_fsh, q_ffr, q_fpk, q_cnil, q_ccons, q_aanil, q_aash, q_aaio, q_gnil, q_gcons, q_pnm, q_pix, q_rsh, q_rfr, q_rpk, q_Nnil, q_Ncons, q_Pnil, q_Pcons, q_tsh, q_tfr, q_tpk, q_Sexpr, q_Sset, q_Spar, q_Sunp, q_Siff, q_Sret, q_SretN, q_Swipe, q_SSnil, q_SScons, q_at0, q_atS, q_wnil, q_wcons, q_bnm, q_btp, q_btl, q_snil, q_scons, q_comp, q_dcomp, q_onil, q_osh, q_oio, Option.bind_some, Option.map_some, Option.bind_none, Option.map_none, List.set_cons_zero, List.set_cons_succ, Tg.slots, muK, muF, if_true, Bool.false_eq_true, if_false, ix_0, ix_1, ix_2, ix_3, ix_4, ixt_0, ixt_1, sx_1, sx_2, sx_3, sx_4, eq_int, ne_int, lt_int, gt_int, le_int, ge_int, isin_ev, notin_ev, add_int, sub_int, pow_10_18, tr_bool, io_int, so_list, so_tup, len_list, len_tup, int_int, abs_int, tup_list, tup_tup, lst_list, lst_tup, apSlots, Bool.not_true, Bool.not_false, decide_true, decide_false, reduceIte, reduceCtorEq, Nat.reduceAdd, List.length_map, hk n ps ws h1 h2 ho h, List.nodup_nil, hb n ps ws (by omega) h, hg _ bestsP_ne]
def AllBOk (C : Ctx) (k : Nat) : Prop := ∀ (n : Nat) (ps : List PR) (ws : List Int), 1 ≤ n → n ≤ 7 → IsOrd n ps → WsOk n ws → C.cal k [.sh (ordD n ps), .sh (wsD ws)] = some (false, .tuple ((bestsP n ps ws).map el), [])
theorem all_best_ok {C : Ctx} {i_check_weights i_bests_of : Nat} (hk : ChkWOk C i_check_weights) (hb : BestsOk C i_bests_of) {n : Nat} {ps : List PR} {ws : List Int} (h1 : 1 ≤ n) (h2 : n ≤ 7) (ho : IsOrd n ps) (h : WsOk n ws) :
    callB C 2 (g_all_best i_check_weights i_bests_of) [.sh (ordD n ps), .sh (wsD ws)] = some (false, .tuple ((bestsP n ps ws).map el), []) := by
  unfold callB g_all_best
  rw [show startE 2 [Ar.sh (ordD n ps), .sh (wsD ws)] = [.sh (ordD n ps), .sh (wsD ws)] from rfl]
  simp only [q_v, q_con, q_glo, q_no, q_tup, q_lst, q_dnk, q_op2, q_neg, q_cmp, q_cmp2, q_and, q_or, q_not, q_ite, q_bi, q_lrng, q_mu, q_call, q_ix, q_sl, q_rev, q_lnil, q_lcons, q_rnil, q_rcons, q_fnil, q_fcons, q_anil, q_aval, q_aio, q_seq, q_rng1, q_rng2, q_zip, q_enm, q_T, q_sh, q_fr, q_pk, q_fsh, q_ffr, q_fpk, q_cnil, q_ccons, q_aanil, q_aash, q_aaio, q_gnil, q_gcons, q_pnm, q_pix, q_rsh, q_rfr, q_rpk, q_Nnil, q_Ncons, q_Pnil, q_Pcons, q_tsh, q_tfr, q_tpk, q_Sexpr, q_Sset, q_Spar, q_Sunp, q_Siff, q_Sret, q_SretN, q_Swipe, q_SSnil, q_SScons, q_at0, q_atS, q_wnil, q_wcons, q_bnm, q_btp, q_btl, q_snil, q_scons, q_comp, q_dcomp, q_onil, q_osh, q_oio, Option.bind_some, Option.map_some, Option.bind_none, Option.map_none, List.set_cons_zero, List.set_cons_succ, Tg.slots, muK, muF, if_true, Bool.false_eq_true, if_false, ix_0, ix_1, ix_2, ix_3, ix_4, ixt_0, ixt_1, sx_1, sx_2, sx_3, sx_4, eq_int, ne_int, lt_int, gt_int, le_int, ge_int, isin_ev, notin_ev, add_int, sub_int, pow_10_18, tr_bool, io_int, so_list, so_tup, len_list, len_tup, int_int, abs_int, tup_list, tup_tup, lst_list, lst_tup, apSlots, Bool.not_true, Bool.not_false, decide_true, decide_false, reduceIte, reduceCtorEq, Nat.reduceAdd, List.length_map, hk n ps ws h1 h2 ho h, List.nodup_nil, hb n ps ws (by omega) h]
def sayOf (xs : List LT) (z : Int) : D := if xs.all (fun l => decide (z ∈ l.items)) = true then .str "always" else if xs.any (fun l => decide (z ∈ l.items)) = true then .str "sometimes" else .str "never"
def InAllOk (C : Ctx) (k : Nat) : Prop := ∀ (n : Nat) (ps : List PR) (ws : List Int) (z : Nat), 1 ≤ n → n ≤ 7 → IsOrd n ps → WsOk n ws → z < n → C.cal k [.sh (ordD n ps), .sh (wsD ws), .sh (.int (z : Nat))] = some (false, sayOf (bestsP n ps ws) z, [])
theorem in_all_ok {C : Ctx} {i_check_weights i_is_within i_bests_of : Nat} (hk : ChkWOk C i_check_weights) (hw : WithinOk C i_is_within) (hb : BestsOk C i_bests_of) {n : Nat} {ps : List PR} {ws : List Int} {z : Nat} (h1 : 1 ≤ n) (h2 : n ≤ 7) (ho : IsOrd n ps) (h : WsOk n ws) (hz : z < n) :
    callB C 5 (g_in_all i_check_weights i_is_within i_bests_of) [.sh (ordD n ps), .sh (wsD ws), .sh (.int (z : Nat))] = some (false, sayOf (bestsP n ps ws) z, []) := by
  unfold callB g_in_all
  rw [show startE 5 [Ar.sh (ordD n ps), .sh (wsD ws), .sh (.int (z : Nat))] = [.sh (ordD n ps), .sh (wsD ws), .sh (.int (z : Nat)), .un, .un] from rfl]
  have q := hw z 0 (n - 1)
  rw [decide_eq_true (show (0 : Int) ≤ z by omega), decide_eq_true (show (z : Int) ≤ n - 1 by omega)] at q
  have ix : ixEv (ordD n ps) (.int 0) = some (.int n) := ixt_0
  have c := comp_map (C := C) (elt := (.cmp .isin (.v 2) (.v 4))) (tg := .nm 4) (it := (.seq (.call i_bests_of (.val (.v 0) (.val (.v 1) .nil))))) (ifs := .nil) (ρ := [.sh (ordD n ps), .sh (wsD ws), .sh (.int (z : Nat)), .un, .un]) (ρ1 := [.sh (ordD n ps), .sh (wsD ws), .sh (.int (z : Nat)), .un, .un]) (as := bestsP n ps ws) (T := el) (g := fun l => .bool (decide ((z : Int) ∈ l.items))) (by
    simp only [q_v, q_con, q_glo, q_no, q_tup, q_lst, q_dnk, q_op2, q_neg, q_cmp, q_cmp2, q_and, q_or, q_not, q_ite, q_bi, q_lrng, q_mu, q_call, q_ix, q_sl, q_rev, q_lnil, q_lcons, q_rnil, q_rcons, q_fnil, q_fcons, q_anil, q_aval, q_aio, q_seq, q_rng1, q_rng2, q_zip, q_enm, q_T, q_sh, q_fr, q_pk, q_fsh, q_ffr, q_fpk, q_cnil, q_ccons, q_aanil, q_aash, q_aaio, q_gnil, q_gcons, q_pnm, q_pix, q_rsh, q_rfr, q_rpk, q_Nnil, q_Ncons, q_Pnil, q_Pcons, q_tsh, q_tfr, q_tpk, q_Sexpr, q_Sset, q_Spar, q_Sunp, q_Siff, q_Sret, q_SretN, q_Swipe, q_SSnil, q_SScons, q_at0, q_atS, q_wnil, q_wcons, q_bnm, q_btp, q_btl, q_snil, q_scons, q_comp, q_dcomp, q_onil, q_osh, q_oio, Option.bind_some, Option.map_some, Option.bind_none, Option.map_none, List.set_cons_zero, List.set_cons_succ, Tg.slots, muK, muF, if_true, Bool.false_eq_true, if_false, ix_0, ix_1, ix_2, ix_3, ix_4, ixt_0, ixt_1, sx_1, sx_2, sx_3, sx_4, eq_int, ne_int, lt_int, gt_int, le_int, ge_int, isin_ev, notin_ev, add_int, sub_int, pow_10_18, tr_bool, io_int, so_list, so_tup, len_list, len_tup, int_int, abs_int, tup_list, tup_tup, lst_list, lst_tup, apSlots, Bool.not_true, Bool.not_false, decide_true, decide_false, reduceIte, reduceCtorEq, Nat.reduceAdd, List.length_map, hb n ps ws (by omega) h, List.nodup_nil]) (fun l hl => by simp only [q_v, q_con, q_glo, q_no, q_tup, q_lst, q_dnk, q_op2, q_neg, q_cmp, q_cmp2, q_and, q_or, q_not, q_ite, q_bi, q_lrng, q_mu, q_call, q_ix, q_sl, q_rev, q_lnil, q_lcons, q_rnil, q_rcons, q_fnil, q_fcons, q_anil, q_aval, q_aio, q_seq, q_rng1, q_rng2, q_zip, q_enm, q_T, q_sh, q_fr, q_pk, q_fsh, q_ffr, q_fpk, q_cnil, q_ccons, q_aanil, q_aash, q_aaio, q_gnil, q_gcons, q_pnm, q_pix, q_rsh, q_rfr, q_rpk, q_Nnil, q_Ncons, q_Pnil, q_Pcons, q_tsh, q_tfr, q_tpk, q_Sexpr, q_Sset, q_Spar, q_Sunp, q_Siff, q_Sret, q_SretN, q_Swipe, q_SSnil, q_SScons, q_at0, q_atS, q_wnil, q_wcons, q_bnm, q_btp, q_btl, q_snil, q_scons, q_comp, q_dcomp, q_onil, q_osh, q_oio, Option.bind_some, Option.map_some, Option.bind_none, Option.map_none, List.set_cons_zero, List.set_cons_succ, Tg.slots, muK, muF, if_true, Bool.false_eq_true, if_false, ix_0, ix_1, ix_2, ix_3, ix_4, ixt_0, ixt_1, sx_1, sx_2, sx_3, sx_4, eq_int, ne_int, lt_int, gt_int, le_int, ge_int, isin_ev, notin_ev, add_int, sub_int, pow_10_18, tr_bool, io_int, so_list, so_tup, len_list, len_tup, int_int, abs_int, tup_list, tup_tup, lst_list, lst_tup, apSlots, Bool.not_true, Bool.not_false, decide_true, decide_false, reduceIte, reduceCtorEq, Nat.reduceAdd, List.length_map, in_el])
  unfold sayOf
  cases ha : (bestsP n ps ws).all (fun l => decide ((z : Int) ∈ l.items)) with
  | true => simp only [q_v, q_con, q_glo, q_no, q_tup, q_lst, q_dnk, q_op2, q_neg, q_cmp, q_cmp2, q_and, q_or, q_not, q_ite, q_bi, q_lrng, q_mu, q_call, q_ix, q_sl, q_rev, q_lnil, q_lcons, q_rnil, q_rcons, q_fnil, q_fcons, q_anil, q_aval, q_aio, q_seq, q_rng1, q_rng2, q_zip, q_enm, q_T, q_sh, q_fr, q_pk, q_fsh, q_ffr, q_fpk, q_cnil, q_ccons, q_aanil, q_aash, q_aaio, q_gnil, q_gcons, q_pnm, q_pix, q_rsh, q_rfr, q_rpk, q_Nnil, q_Ncons, q_Pnil, q_Pcons, q_tsh, q_tfr, q_tpk, q_Sexpr, q_Sset, q_Spar, q_Sunp, q_Siff, q_Sret, q_SretN, q_Swipe, q_SSnil, q_SScons, q_at0, q_atS, q_wnil, q_wcons, q_bnm, q_btp, q_btl, q_snil, q_scons, q_comp, q_dcomp, q_onil, q_osh, q_oio, Option.bind_some, Option.map_some, Option.bind_none, Option.map_none, List.set_cons_zero, List.set_cons_succ, Tg.slots, muK, muF, if_true, Bool.false_eq_true, if_false, ix_0, ix_1, ix_2, ix_3, ix_4, ixt_0, ixt_1, sx_1, sx_2, sx_3, sx_4, eq_int, ne_int, lt_int, gt_int, le_int, ge_int, isin_ev, notin_ev, add_int, sub_int, pow_10_18, tr_bool, io_int, so_list, so_tup, len_list, len_tup, int_int, abs_int, tup_list, tup_tup, lst_list, lst_tup, apSlots, Bool.not_true, Bool.not_false, decide_true, decide_false, reduceIte, reduceCtorEq, Nat.reduceAdd, List.length_map, hk n ps ws h1 h2 ho h, List.nodup_nil, ix, q, Bool.and_self, c, all_map (fun l : LT => decide ((z : Int) ∈ l.items)), ha]
  | false =>
    cases hy : (bestsP n ps ws).any (fun l => decide ((z : Int) ∈ l.items)) with
    | true => simp only [q_v, q_con, q_glo, q_no, q_tup, q_lst, q_dnk, q_op2, q_neg, q_cmp, q_cmp2, q_and, q_or, q_not, q_ite, q_bi, q_lrng, q_mu, q_call, q_ix, q_sl, q_rev, q_lnil, q_lcons, q_rnil, q_rcons, q_fnil, q_fcons, q_anil, q_aval, q_aio, q_seq, q_rng1, q_rng2, q_zip, q_enm, q_T, q_sh, q_fr, q_pk, q_fsh, q_ffr, q_fpk, q_cnil, q_ccons, q_aanil, q_aash, q_aaio, q_gnil, q_gcons, q_pnm, q_pix, q_rsh, q_rfr, q_rpk, q_Nnil, q_Ncons, q_Pnil, q_Pcons, q_tsh, q_tfr, q_tpk, q_Sexpr, q_Sset, q_Spar, q_Sunp, q_Siff, q_Sret, q_SretN, q_Swipe, q_SSnil, q_SScons, q_at0, q_atS, q_wnil, q_wcons, q_bnm, q_btp, q_btl, q_snil, q_scons, q_comp, q_dcomp, q_onil, q_osh, q_oio, Option.bind_some, Option.map_some, Option.bind_none, Option.map_none, List.set_cons_zero, List.set_cons_succ, Tg.slots, muK, muF, if_true, Bool.false_eq_true, if_false, ix_0, ix_1, ix_2, ix_3, ix_4, ixt_0, ixt_1, sx_1, sx_2, sx_3, sx_4, eq_int, ne_int, lt_int, gt_int, le_int, ge_int, isin_ev, notin_ev, add_int, sub_int, pow_10_18, tr_bool, io_int, so_list, so_tup, len_list, len_tup, int_int, abs_int, tup_list, tup_tup, lst_list, lst_tup, apSlots, Bool.not_true, Bool.not_false, decide_true, decide_false, reduceIte, reduceCtorEq, Nat.reduceAdd, List.length_map, hk n ps ws h1 h2 ho h, List.nodup_nil, ix, q, Bool.and_self, c, all_map (fun l : LT => decide ((z : Int) ∈ l.items)), any_map (fun l : LT => decide ((z : Int) ∈ l.items)), ha, hy]
    | false => simp only [q_v, q_con, q_glo, q_no, q_tup, q_lst, q_dnk, q_op2, q_neg, q_cmp, q_cmp2, q_and, q_or, q_not, q_ite, q_bi, q_lrng, q_mu, q_call, q_ix, q_sl, q_rev, q_lnil, q_lcons, q_rnil, q_rcons, q_fnil, q_fcons, q_anil, q_aval, q_aio, q_seq, q_rng1, q_rng2, q_zip, q_enm, q_T, q_sh, q_fr, q_pk, q_fsh, q_ffr, q_fpk, q_cnil, q_ccons, q_aanil, q_aash, q_aaio, q_gnil, q_gcons, q_pnm, q_pix, q_rsh, q_rfr, q_rpk, q_Nnil, q_Ncons, q_Pnil, q_Pcons, q_tsh, q_tfr, q_tpk, q_Sexpr, q_Sset, q_Spar, q_Sunp, q_Siff, q_Sret, q_SretN, q_Swipe, q_SSnil, q_SScons, q_at0, q_atS, q_wnil, q_wcons, q_bnm, q_btp, q_btl, q_snil, q_scons, q_comp, q_dcomp, q_onil, q_osh, q_oio, Option.bind_some, Option.map_some, Option.bind_none, Option.map_none, List.set_cons_zero, List.set_cons_succ, Tg.slots, muK, muF, if_true, Bool.false_eq_true, if_false, ix_0, ix_1, ix_2, ix_3, ix_4, ixt_0, ixt_1, sx_1, sx_2, sx_3, sx_4, eq_int, ne_int, lt_int, gt_int, le_int, ge_int, isin_ev, notin_ev, add_int, sub_int, pow_10_18, tr_bool, io_int, so_list, so_tup, len_list, len_tup, int_int, abs_int, tup_list, tup_tup, lst_list, lst_tup, apSlots, Bool.not_true, Bool.not_false, decide_true, decide_false, reduceIte, reduceCtorEq, Nat.reduceAdd, List.length_map, hk n ps ws h1 h2 ho h, List.nodup_nil, ix, q, Bool.and_self, c, all_map (fun l : LT => decide ((z : Int) ∈ l.items)), any_map (fun l : LT => decide ((z : Int) ∈ l.items)), ha, hy]
/-! the law's likeness -/
def Self (C : Ctx) (k : Nat) (d : D) : Prop := C.cal k [.sh d, .sh d] = some (false, .bool true, [])
theorem is_int {C : Ctx} {i_law_is : Nat} (i : Int) : callB C 5 (g_law_is i_law_is) [.sh (.int i), .sh (.int i)] = some (false, .bool true, []) := by
  unfold callB g_law_is
  rw [show startE 5 [Ar.sh (.int i), .sh (.int i)] = [.sh (.int i), .sh (.int i), .un, .un, .un] from rfl]
  have e : cmpEv .is_ (.int i) .none = some false := rfl
  have eb : ∀ b : Bool, cmpEv .eq (.bool b) (.bool b) = some true := fun b => by rw [show (PyData.bool b) = Datum.toD b from rfl, eq_enc (α := Bool) (by decide)]; simp
  simp only [q_v, q_con, q_glo, q_no, q_tup, q_lst, q_dnk, q_op2, q_neg, q_cmp, q_cmp2, q_and, q_or, q_not, q_ite, q_bi, q_lrng, q_mu, q_call, q_ix, q_sl, q_rev, q_lnil, q_lcons, q_rnil, q_rcons, q_fnil, q_fcons, q_anil, q_aval, q_aio, q_seq, q_rng1, q_rng2, q_zip, q_enm, q_T, q_sh, q_fr, q_pk, q_fsh, q_ffr, q_fpk, q_cnil, q_ccons, q_aanil, q_aash, q_aaio, q_gnil, q_gcons, q_pnm, q_pix, q_rsh, q_rfr, q_rpk, q_Nnil, q_Ncons, q_Pnil, q_Pcons, q_tsh, q_tfr, q_tpk, q_Sexpr, q_Sset, q_Spar, q_Sunp, q_Siff, q_Sret, q_SretN, q_Swipe, q_SSnil, q_SScons, q_at0, q_atS, q_wnil, q_wcons, q_bnm, q_btp, q_btl, q_snil, q_scons, q_comp, q_dcomp, q_onil, q_osh, q_oio, Option.bind_some, Option.map_some, Option.bind_none, Option.map_none, List.set_cons_zero, List.set_cons_succ, Tg.slots, muK, muF, if_true, Bool.false_eq_true, if_false, ix_0, ix_1, ix_2, ix_3, ix_4, ixt_0, ixt_1, sx_1, sx_2, sx_3, sx_4, eq_int, ne_int, lt_int, gt_int, le_int, ge_int, isin_ev, notin_ev, add_int, sub_int, pow_10_18, tr_bool, io_int, so_list, so_tup, len_list, len_tup, int_int, abs_int, tup_list, tup_tup, lst_list, lst_tup, apSlots, Bool.not_true, Bool.not_false, decide_true, decide_false, reduceIte, reduceCtorEq, Nat.reduceAdd, List.length_map, isi_int, List.any_cons, List.any_nil, isTy, Bool.or_false, Bool.or_self, Bool.or_true, Bool.true_or, e, eb]
theorem is_str {C : Ctx} {i_law_is : Nat} (x : Str) : callB C 5 (g_law_is i_law_is) [.sh (.str x), .sh (.str x)] = some (false, .bool true, []) := by
  unfold callB g_law_is
  rw [show startE 5 [Ar.sh (.str x), .sh (.str x)] = [.sh (.str x), .sh (.str x), .un, .un, .un] from rfl]
  have eb : ∀ b : Bool, cmpEv .eq (.bool b) (.bool b) = some true := fun b => by rw [show (PyData.bool b) = Datum.toD b from rfl, eq_enc (α := Bool) (by decide)]; simp
  have es : cmpEv .eq (.str x) (.str x) = some true := by rw [show (PyData.str x) = Datum.toD x from rfl, eq_enc (α := Str) (by decide)]; simp
  simp only [q_v, q_con, q_glo, q_no, q_tup, q_lst, q_dnk, q_op2, q_neg, q_cmp, q_cmp2, q_and, q_or, q_not, q_ite, q_bi, q_lrng, q_mu, q_call, q_ix, q_sl, q_rev, q_lnil, q_lcons, q_rnil, q_rcons, q_fnil, q_fcons, q_anil, q_aval, q_aio, q_seq, q_rng1, q_rng2, q_zip, q_enm, q_T, q_sh, q_fr, q_pk, q_fsh, q_ffr, q_fpk, q_cnil, q_ccons, q_aanil, q_aash, q_aaio, q_gnil, q_gcons, q_pnm, q_pix, q_rsh, q_rfr, q_rpk, q_Nnil, q_Ncons, q_Pnil, q_Pcons, q_tsh, q_tfr, q_tpk, q_Sexpr, q_Sset, q_Spar, q_Sunp, q_Siff, q_Sret, q_SretN, q_Swipe, q_SSnil, q_SScons, q_at0, q_atS, q_wnil, q_wcons, q_bnm, q_btp, q_btl, q_snil, q_scons, q_comp, q_dcomp, q_onil, q_osh, q_oio, Option.bind_some, Option.map_some, Option.bind_none, Option.map_none, List.set_cons_zero, List.set_cons_succ, Tg.slots, muK, muF, if_true, Bool.false_eq_true, if_false, ix_0, ix_1, ix_2, ix_3, ix_4, ixt_0, ixt_1, sx_1, sx_2, sx_3, sx_4, eq_int, ne_int, lt_int, gt_int, le_int, ge_int, isin_ev, notin_ev, add_int, sub_int, pow_10_18, tr_bool, io_int, so_list, so_tup, len_list, len_tup, int_int, abs_int, tup_list, tup_tup, lst_list, lst_tup, apSlots, Bool.not_true, Bool.not_false, decide_true, decide_false, reduceIte, reduceCtorEq, Nat.reduceAdd, List.length_map, isi_str, List.any_cons, List.any_nil, isTy, Bool.or_false, Bool.or_self, Bool.or_true, Bool.true_or, eb, es]
theorem is_tup {C : Ctx} {i_law_is : Nat} {xs : List D} (h : ∀ d ∈ xs, Self C i_law_is d) : callB C 5 (g_law_is i_law_is) [.sh (.tuple xs), .sh (.tuple xs)] = some (false, .bool true, []) := by
  unfold callB g_law_is
  rw [show startE 5 [Ar.sh (.tuple xs), .sh (.tuple xs)] = [.sh (.tuple xs), .sh (.tuple xs), .un, .un, .un] from rfl]
  have nb : ∀ b : Bool, cmpEv .ne (.bool b) (.bool b) = some false := fun b => by rw [show (PyData.bool b) = Datum.toD b from rfl, ne_enc (α := Bool) (by decide)]; simp
  have c := comp_map (C := C) (elt := (.call i_law_is (.val (.v 3) (.val (.v 4) .nil)))) (tg := .tp [3, 4]) (it := .zip (.v 0) (.v 1)) (ifs := .nil) (ρ := [.sh (.tuple xs), .sh (.tuple xs), .un, .un, .un]) (ρ1 := [.sh (.tuple xs), .sh (.tuple xs), .un, .un, .un]) (as := xs) (T := fun d => .tuple [d, d]) (g := fun _ => .bool true) (by
    simp only [q_v, q_con, q_glo, q_no, q_tup, q_lst, q_dnk, q_op2, q_neg, q_cmp, q_cmp2, q_and, q_or, q_not, q_ite, q_bi, q_lrng, q_mu, q_call, q_ix, q_sl, q_rev, q_lnil, q_lcons, q_rnil, q_rcons, q_fnil, q_fcons, q_anil, q_aval, q_aio, q_seq, q_rng1, q_rng2, q_zip, q_enm, q_T, q_sh, q_fr, q_pk, q_fsh, q_ffr, q_fpk, q_cnil, q_ccons, q_aanil, q_aash, q_aaio, q_gnil, q_gcons, q_pnm, q_pix, q_rsh, q_rfr, q_rpk, q_Nnil, q_Ncons, q_Pnil, q_Pcons, q_tsh, q_tfr, q_tpk, q_Sexpr, q_Sset, q_Spar, q_Sunp, q_Siff, q_Sret, q_SretN, q_Swipe, q_SSnil, q_SScons, q_at0, q_atS, q_wnil, q_wcons, q_bnm, q_btp, q_btl, q_snil, q_scons, q_comp, q_dcomp, q_onil, q_osh, q_oio, Option.bind_some, Option.map_some, Option.bind_none, Option.map_none, List.set_cons_zero, List.set_cons_succ, Tg.slots, muK, muF, if_true, Bool.false_eq_true, if_false, ix_0, ix_1, ix_2, ix_3, ix_4, ixt_0, ixt_1, sx_1, sx_2, sx_3, sx_4, eq_int, ne_int, lt_int, gt_int, le_int, ge_int, isin_ev, notin_ev, add_int, sub_int, pow_10_18, tr_bool, io_int, so_list, so_tup, len_list, len_tup, int_int, abs_int, tup_list, tup_tup, lst_list, lst_tup, apSlots, Bool.not_true, Bool.not_false, decide_true, decide_false, reduceIte, reduceCtorEq, Nat.reduceAdd, List.length_map, zipEv]
    congr 2
    rw [List.zipWith_self]) (fun d hd => by
    have := h d hd
    unfold Self at this
    simp only [q_v, q_con, q_glo, q_no, q_tup, q_lst, q_dnk, q_op2, q_neg, q_cmp, q_cmp2, q_and, q_or, q_not, q_ite, q_bi, q_lrng, q_mu, q_call, q_ix, q_sl, q_rev, q_lnil, q_lcons, q_rnil, q_rcons, q_fnil, q_fcons, q_anil, q_aval, q_aio, q_seq, q_rng1, q_rng2, q_zip, q_enm, q_T, q_sh, q_fr, q_pk, q_fsh, q_ffr, q_fpk, q_cnil, q_ccons, q_aanil, q_aash, q_aaio, q_gnil, q_gcons, q_pnm, q_pix, q_rsh, q_rfr, q_rpk, q_Nnil, q_Ncons, q_Pnil, q_Pcons, q_tsh, q_tfr, q_tpk, q_Sexpr, q_Sset, q_Spar, q_Sunp, q_Siff, q_Sret, q_SretN, q_Swipe, q_SSnil, q_SScons, q_at0, q_atS, q_wnil, q_wcons, q_bnm, q_btp, q_btl, q_snil, q_scons, q_comp, q_dcomp, q_onil, q_osh, q_oio, Option.bind_some, Option.map_some, Option.bind_none, Option.map_none, List.set_cons_zero, List.set_cons_succ, Tg.slots, muK, muF, if_true, Bool.false_eq_true, if_false, ix_0, ix_1, ix_2, ix_3, ix_4, ixt_0, ixt_1, sx_1, sx_2, sx_3, sx_4, eq_int, ne_int, lt_int, gt_int, le_int, ge_int, isin_ev, notin_ev, add_int, sub_int, pow_10_18, tr_bool, io_int, so_list, so_tup, len_list, len_tup, int_int, abs_int, tup_list, tup_tup, lst_list, lst_tup, apSlots, Bool.not_true, Bool.not_false, decide_true, decide_false, reduceIte, reduceCtorEq, Nat.reduceAdd, List.length_map, this, List.nodup_nil])
  simp only [q_v, q_con, q_glo, q_no, q_tup, q_lst, q_dnk, q_op2, q_neg, q_cmp, q_cmp2, q_and, q_or, q_not, q_ite, q_bi, q_lrng, q_mu, q_call, q_ix, q_sl, q_rev, q_lnil, q_lcons, q_rnil, q_rcons, q_fnil, q_fcons, q_anil, q_aval, q_aio, q_seq, q_rng1, q_rng2, q_zip, q_enm, q_T, q_sh, q_fr, q_pk, q_fsh, q_ffr, q_fpk, q_cnil, q_ccons, q_aanil, q_aash, q_aaio, q_gnil, q_gcons, q_pnm, q_pix, q_rsh, q_rfr, q_rpk, q_Nnil, q_Ncons, q_Pnil, q_Pcons, q_tsh, q_tfr, q_tpk, q_Sexpr, q_Sset, q_Spar, q_Sunp, q_Siff, q_Sret, q_SretN, q_Swipe, q_SSnil, q_SScons, q_at0, q_atS, q_wnil, q_wcons, q_bnm, q_btp, q_btl, q_snil, q_scons, q_comp, q_dcomp, q_onil, q_osh, q_oio, Option.bind_some, Option.map_some, Option.bind_none, Option.map_none, List.set_cons_zero, List.set_cons_succ, Tg.slots, muK, muF, if_true, Bool.false_eq_true, if_false, ix_0, ix_1, ix_2, ix_3, ix_4, ixt_0, ixt_1, sx_1, sx_2, sx_3, sx_4, eq_int, ne_int, lt_int, gt_int, le_int, ge_int, isin_ev, notin_ev, add_int, sub_int, pow_10_18, tr_bool, io_int, so_list, so_tup, len_list, len_tup, int_int, abs_int, tup_list, tup_tup, lst_list, lst_tup, apSlots, Bool.not_true, Bool.not_false, decide_true, decide_false, reduceIte, reduceCtorEq, Nat.reduceAdd, List.length_map, isi_tup, List.any_cons, List.any_nil, isTy, Bool.or_false, Bool.or_self, Bool.or_true, Bool.true_or, nb, c, all_true]
/-! drawn weights -/
def wsList : List Int := [0, 1, 2, 3, 5, 7, 10, -1, -2, -3, -5, -8, -10, 1000, -1000]
end PI

set_option Elab.async false
set_option linter.all false
set_option maxRecDepth 100000
set_option maxHeartbeats 4000000
/-! QM: best lots: what the law asks of them, in plain Lean. -/
namespace PI
set_option autoImplicit false
open PySem PySem.W

theorem lawLots_perm (n : Nat) : (lawLots n).Perm (lotsM n) := by
  unfold lawLots
  have := (srtT_perm ((lotsM n).map sz)).map (·.2)
  rw [List.map_map] at this
  rw [show (lotsM n).map ((fun q : Int × LT => q.2) ∘ sz) = lotsM n from (List.map_congr_left fun _ _ => rfl).trans (List.map_id _)] at this
  exact this
def lawC (n : Nat) (ps : List PR) : List LT := (lawLots n).filter (clo ps)
theorem lawC_perm (n : Nat) (ps : List PR) : (lawC n ps).Perm (closedP n ps) := ((lawLots_perm n).trans (srtT_perm _).symm).filter _
theorem best_same (n : Nat) (ps : List PR) (ws : List Int) : maxI ((lawC n ps).map (wt ws)) = bestP n ps ws := maxI_perm ((lawC_perm n ps).map _)
def someL (n : Nat) (ps : List PR) (ws : List Int) : List LT := (lawC n ps).filter fun l => decide (wt ws l = bestP n ps ws)
theorem some_perm (n : Nat) (ps : List PR) (ws : List Int) : (someL n ps ws).Perm (bestsP n ps ws) := (lawC_perm n ps).filter _
theorem bestsP_sorted (n : Nat) (ps : List PR) (ws : List Int) : (bestsP n ps ws).Pairwise (fun a b => leT a b = true) := ((srtT_sorted (lotsM n)).filter _).filter _
theorem some_srt (n : Nat) (ps : List PR) (ws : List Int) : srtT (someL n ps ws) = bestsP n ps ws := srtT_eq (some_perm n ps ws).symm (bestsP_sorted n ps ws)
theorem some_ne (n : Nat) (ps : List PR) (ws : List Int) : someL n ps ws ≠ [] := fun e => by
  have := some_perm n ps ws
  rw [e] at this
  exact bestsP_ne this.nil_eq.symm
theorem some_mem {n : Nat} {ps : List PR} {ws : List Int} {l : LT} : l ∈ someL n ps ws ↔ l ∈ lotsM n ∧ clo ps l = true ∧ wt ws l = bestP n ps ws := by
  rw [(some_perm n ps ws).mem_iff]
  unfold bestsP
  rw [List.mem_filter, closedP_mem, decide_eq_true_eq, and_assoc]
theorem bests_mem {n : Nat} {ps : List PR} {ws : List Int} {l : LT} : l ∈ bestsP n ps ws ↔ l ∈ lotsM n ∧ clo ps l = true ∧ wt ws l = bestP n ps ws := by
  rw [← (some_perm n ps ws).mem_iff, some_mem]
theorem some_sz (n : Nat) (ps : List PR) (ws : List Int) : ((someL n ps ws).map sz).Pairwise (fun a b => leT a b = true) := by
  have h0 : (lawLots n).map sz = srtT ((lotsM n).map sz) := by
    unfold lawLots
    rw [List.map_map]
    refine (List.map_congr_left fun q hq => ?_).trans (List.map_id _)
    obtain ⟨l, _, rfl⟩ := List.mem_map.mp (srtT_mem.mp hq)
    rfl
  have h1 : ((lawLots n).map sz).Pairwise (fun a b => leT a b = true) := by rw [h0]; exact srtT_sorted _
  exact h1.sublist (((List.filter_sublist).trans (List.filter_sublist)).map sz)
theorem head_gen : ∀ {xs ys : List LT} (ne : xs ≠ []), ((xs.map sz).Perm (ys.map sz)) → (xs.map sz).Pairwise (fun a b => leT a b = true) → hdT (ys.map sz) = xs.head ne
  | [], _, ne, _, _ => absurd rfl ne
  | x :: xs, [], _, p, _ => absurd p.length_eq (by simp)
  | x :: xs, y :: ys, ne, p, s => by
    rw [List.map_cons] at s p ⊢
    rw [List.map_cons] at p
    show (minOf (sz y) (ys.map sz)).2 = x
    rw [← minOf_perm p, minOf_head s]
theorem last_gen : ∀ {xs ys : List LT} (ne : xs ≠ []), ((xs.map sz).Perm (ys.map sz)) → (xs.map sz).Pairwise (fun a b => leT a b = true) → lsT (ys.map sz) = xs.getLast ne
  | [], _, ne, _, _ => absurd rfl ne
  | x :: xs, [], _, p, _ => absurd p.length_eq (by simp)
  | x :: xs, y :: ys, ne, p, s => by
    rw [List.map_cons] at s p ⊢
    rw [List.map_cons] at p
    show (maxOf (sz y) (ys.map sz)).2 = _
    rw [← maxOf_perm p, maxOf_last s]
    have : (sz x :: xs.map sz).getLast (List.cons_ne_nil _ _) = sz ((x :: xs).getLast (List.cons_ne_nil _ _)) := by
      have := List.getLast_map (f := sz) (l := x :: xs) (by simp)
      simpa using this
    rw [this]
theorem head_le_gen : ∀ {xs : List LT} {l : LT} (ne : xs ≠ []), (xs.map sz).Pairwise (fun a b => leT a b = true) → l ∈ xs → leT (sz (xs.head ne)) (sz l) = true
  | [], _, ne, _, _ => absurd rfl ne
  | x :: xs, l, ne, s, h => by
    rw [List.map_cons] at s
    rcases List.mem_cons.mp h with rfl | h
    · simp [leT, LO.ir]
    · exact (List.pairwise_cons.mp s).1 _ (List.mem_map.mpr ⟨l, h, rfl⟩)
theorem head_least (n : Nat) (ps : List PR) (ws : List Int) : hdT ((bestsP n ps ws).map sz) = (someL n ps ws).head (some_ne n ps ws) := head_gen _ ((some_perm n ps ws).map sz) (some_sz n ps ws)
theorem last_greatest (n : Nat) (ps : List PR) (ws : List Int) : lsT ((bestsP n ps ws).map sz) = (someL n ps ws).getLast (some_ne n ps ws) := last_gen _ ((some_perm n ps ws).map sz) (some_sz n ps ws)
/-! intersections, unions -/
theorem asc_eq {xs ys : List Int} (h1 : xs.Pairwise (· < ·)) (h2 : ys.Pairwise (· < ·)) (h : ∀ z, z ∈ xs ↔ z ∈ ys) : xs = ys := by
  have n1 : xs.Nodup := h1.imp fun {a b} q e => by omega
  have n2 : ys.Nodup := h2.imp fun {a b} q e => by omega
  have p : xs.Perm ys := (List.perm_ext_iff_of_nodup n1 n2).mpr h
  exact List.Perm.eq_of_pairwise (le := fun a b => a < b) (fun a b _ _ q1 q2 => by omega) h1 h2 p
def mt (l m : LT) : LT := ⟨l.items.filter fun z => decide (z ∈ m.items)⟩
def rangeI (n : Nat) : List Int := (List.range n).map fun k : Nat => (k : Int)
theorem rangeI_mem {n : Nat} {z : Int} : z ∈ rangeI n ↔ 0 ≤ z ∧ z < n := by
  unfold rangeI
  simp only [List.mem_map, List.mem_range]
  constructor
  · rintro ⟨k, hk, rfl⟩; omega
  · rintro ⟨h1, h2⟩; exact ⟨z.toNat, by omega, by omega⟩
theorem rangeI_asc (n : Nat) : (rangeI n).Pairwise (· < ·) := by
  unfold rangeI
  exact List.pairwise_lt_range.map _ fun a b h => by omega
theorem lot_items {n : Nat} {l : LT} (h : l ∈ lotsM n) : l.items = (rangeI n).filter fun z => decide (z ∈ l.items) := by
  obtain ⟨h1, h2⟩ := lotsM_mem.mp h
  refine asc_eq h1 ((rangeI_asc n).filter _) fun z => ?_
  rw [List.mem_filter, rangeI_mem, decide_eq_true_eq]
  exact ⟨fun hz => ⟨h2 z hz, hz⟩, fun hz => hz.2⟩
theorem sum_filter (f : Int → Int) (p : Int → Bool) : ∀ xs : List Int, ((xs.filter p).map f).sum = (xs.map fun z => if p z = true then f z else 0).sum
  | [] => rfl
  | x :: xs => by
    rw [List.filter_cons, List.map_cons, List.sum_cons, ← sum_filter f p xs]
    cases p x <;> simp
theorem wt_range {n : Nat} {ws : List Int} {l : LT} (h : l ∈ lotsM n) : wt ws l = ((rangeI n).map fun z => if z ∈ l.items then ws.getD z.toNat 0 else 0).sum := by
  unfold wt
  conv => lhs; rw [lot_items h]
  rw [sum_filter]
  congr 1
  refine List.map_congr_left fun z _ => ?_
  simp only [decide_eq_true_eq]
theorem sum_add (f g : Int → Int) : ∀ xs : List Int, (xs.map fun z => f z + g z).sum = (xs.map f).sum + (xs.map g).sum
  | [] => rfl
  | x :: xs => by
    simp only [List.map_cons, List.sum_cons, sum_add f g xs]
    omega
theorem clo_iff {ps : List PR} {l : LT} : clo ps l = true ↔ ∀ p ∈ ps, p.2 ∈ l.items → p.1 ∈ l.items := by
  unfold clo
  simp only [Bool.not_eq_true', List.any_eq_false, Bool.and_eq_true, decide_eq_true_eq, not_and, Bool.not_eq_false', Bool.not_eq_true, decide_eq_false_iff_not, Classical.not_not]
theorem best_max {n : Nat} {ps : List PR} {ws : List Int} {l : LT} (h : l ∈ lotsM n) (hc : clo ps l = true) : wt ws l ≤ bestP n ps ws :=
  (maxI_ok (xs := (closedP n ps).map (wt ws)) (by simpa using closedP_ne n ps)).2 _ (List.mem_map.mpr ⟨l, closedP_mem.mpr ⟨h, hc⟩, rfl⟩)
/-- meets and joins of best lots are best -/
theorem lattice {n : Nat} {ps : List PR} {ws : List Int} {l m i u : LT} (hl : l ∈ someL n ps ws) (hm : m ∈ someL n ps ws) (hi : i ∈ lotsM n) (hu : u ∈ lotsM n)
    (ei : ∀ z, z ∈ i.items ↔ z ∈ l.items ∧ z ∈ m.items) (eu : ∀ z, z ∈ u.items ↔ z ∈ l.items ∨ z ∈ m.items) : i ∈ someL n ps ws ∧ u ∈ someL n ps ws := by
  obtain ⟨l1, l2, l3⟩ := some_mem.mp hl
  obtain ⟨m1, m2, m3⟩ := some_mem.mp hm
  have ci : clo ps i = true := clo_iff.mpr fun p hp h => (ei _).mpr ⟨clo_iff.mp l2 p hp ((ei _).mp h).1, clo_iff.mp m2 p hp ((ei _).mp h).2⟩
  have cu : clo ps u = true := clo_iff.mpr fun p hp h => (eu _).mpr (((eu _).mp h).imp (clo_iff.mp l2 p hp) (clo_iff.mp m2 p hp))
  have bi := best_max (ws := ws) hi ci
  have bu := best_max (ws := ws) hu cu
  have sum : wt ws i + wt ws u = wt ws l + wt ws m := by
    rw [wt_range hi, wt_range hu, wt_range l1, wt_range m1, ← sum_add, ← sum_add]
    congr 1
    refine List.map_congr_left fun z _ => ?_
    by_cases a : z ∈ l.items <;> by_cases b : z ∈ m.items <;> simp [ei, eu, a, b]
  exact ⟨some_mem.mpr ⟨hi, ci, by omega⟩, some_mem.mpr ⟨hu, cu, by omega⟩⟩
theorem mt_lot {n : Nat} {l m : LT} (h : l ∈ lotsM n) : mt l m ∈ lotsM n := by
  obtain ⟨h1, h2⟩ := lotsM_mem.mp h
  exact lotsM_mem.mpr ⟨h1.filter _, fun z hz => h2 z (List.mem_filter.mp hz).1⟩
theorem mt_mem {l m : LT} {z : Int} : z ∈ (mt l m).items ↔ z ∈ l.items ∧ z ∈ m.items := by
  unfold mt
  simp [List.mem_filter]
def jn (n : Nat) (l m : LT) : LT := ⟨(rangeI n).filter fun z => decide (z ∈ l.items) || decide (z ∈ m.items)⟩
theorem jn_lot (n : Nat) (l m : LT) : jn n l m ∈ lotsM n := lotsM_mem.mpr ⟨(rangeI_asc n).filter _, fun z hz => rangeI_mem.mp (List.mem_filter.mp hz).1⟩
theorem jn_mem {n : Nat} {l m : LT} (hl : l ∈ lotsM n) (hm : m ∈ lotsM n) {z : Int} : z ∈ (jn n l m).items ↔ z ∈ l.items ∨ z ∈ m.items := by
  unfold jn
  rw [List.mem_filter, rangeI_mem, Bool.or_eq_true, decide_eq_true_eq, decide_eq_true_eq]
  constructor
  · exact fun h => h.2
  · intro h
    exact ⟨h.elim ((lotsM_mem.mp hl).2 z) ((lotsM_mem.mp hm).2 z), h⟩
theorem meet_in {n : Nat} {ps : List PR} {ws : List Int} {l m : LT} (hl : l ∈ someL n ps ws) (hm : m ∈ someL n ps ws) : mt l m ∈ someL n ps ws :=
  (lattice hl hm (mt_lot (some_mem.mp hl).1) (jn_lot n l m) (fun _ => mt_mem) fun _ => jn_mem (some_mem.mp hl).1 (some_mem.mp hm).1).1
theorem join_in {n : Nat} {ps : List PR} {ws : List Int} {l m : LT} (hl : l ∈ someL n ps ws) (hm : m ∈ someL n ps ws) : jn n l m ∈ someL n ps ws :=
  (lattice hl hm (mt_lot (some_mem.mp hl).1) (jn_lot n l m) (fun _ => mt_mem) fun _ => jn_mem (some_mem.mp hl).1 (some_mem.mp hm).1).2
theorem asc_nodup {xs : List Int} (h : xs.Pairwise (· < ·)) : xs.Nodup := h.imp fun {a b} q e => by omega
theorem sz_le {a b : LT} (h : leT (sz a) (sz b) = true) : a.items.length ≤ b.items.length := by
  simp only [leT, Bool.not_eq_true'] at h
  have h : (if ((b.items.length : Nat) : Int) = (a.items.length : Nat) then DatumOrd.lt b a else decide (((b.items.length : Nat) : Int) < (a.items.length : Nat))) = false := h
  split at h
  · omega
  · simp only [decide_eq_false_iff_not] at h
    omega
theorem head_min {n : Nat} {ps : List PR} {ws : List Int} {l : LT} (h : l ∈ someL n ps ws) : ((someL n ps ws).head (some_ne n ps ws)).items.length ≤ l.items.length := sz_le (head_le_gen _ (some_sz n ps ws) h)
theorem last_max {n : Nat} {ps : List PR} {ws : List Int} {l : LT} (h : l ∈ someL n ps ws) : l.items.length ≤ ((someL n ps ws).getLast (some_ne n ps ws)).items.length := by
  have s := some_sz n ps ws
  have ne := some_ne n ps ws
  have hd := List.dropLast_concat_getLast ne
  rw [← hd] at h s
  rw [List.map_append] at s
  rcases List.mem_append.mp h with h | h
  · exact sz_le ((List.pairwise_append.mp s).2.2 _ (List.mem_map.mpr ⟨l, h, rfl⟩) _ (by simp))
  · rw [List.mem_singleton.mp h]
    exact Nat.le_refl _
theorem head_sub {n : Nat} {ps : List PR} {ws : List Int} {l : LT} (h : l ∈ someL n ps ws) : ∀ z ∈ ((someL n ps ws).head (some_ne n ps ws)).items, z ∈ l.items := by
  have hh := List.head_mem (some_ne n ps ws)
  have mi := meet_in hh h
  have le := head_min mi
  intro z hz
  have sub : (mt ((someL n ps ws).head (some_ne n ps ws)) l).items.Sublist ((someL n ps ws).head (some_ne n ps ws)).items := List.filter_sublist
  have e := sub.eq_of_length_le le
  rw [← e] at hz
  exact (mt_mem.mp hz).2
theorem last_sup {n : Nat} {ps : List PR} {ws : List Int} {l : LT} (h : l ∈ someL n ps ws) : ∀ z ∈ l.items, z ∈ ((someL n ps ws).getLast (some_ne n ps ws)).items := by
  have hh := List.getLast_mem (some_ne n ps ws)
  have ji := join_in h hh
  have le := last_max ji
  intro z hz
  refine Classical.byContradiction fun hn => ?_
  have l1 := (some_mem.mp h).1
  have g1 := (some_mem.mp hh).1
  have nd : (z :: ((someL n ps ws).getLast (some_ne n ps ws)).items).Nodup := List.nodup_cons.mpr ⟨hn, asc_nodup (lotsM_mem.mp g1).1⟩
  have := List.Nodup.length_le_of_subset nd (l₂ := (jn n l ((someL n ps ws).getLast (some_ne n ps ws))).items) fun y hy => by
    rcases List.mem_cons.mp hy with rfl | hy
    · exact (jn_mem l1 g1).mpr (.inl hz)
    · exact (jn_mem l1 g1).mpr (.inr hy)
  rw [List.length_cons] at this
  omega
/-! in all, in some, in none -/
theorem say_same (n : Nat) (ps : List PR) (ws : List Int) (z : Int) : sayOf (bestsP n ps ws) z = (if ((someL n ps ws).filter fun l => decide (z ∈ l.items)).length = (someL n ps ws).length then .str "always" else if ((someL n ps ws).filter fun l => decide (z ∈ l.items)).length = 0 then .str "never" else .str "sometimes") := by
  have p := some_perm n ps ws
  have e1 : (bestsP n ps ws).all (fun l => decide (z ∈ l.items)) = (someL n ps ws).all (fun l => decide (z ∈ l.items)) := by
    rw [Bool.eq_iff_iff, List.all_eq_true, List.all_eq_true]
    exact ⟨fun h x hx => h x (p.mem_iff.mp hx), fun h x hx => h x (p.mem_iff.mpr hx)⟩
  have e2 : (bestsP n ps ws).any (fun l => decide (z ∈ l.items)) = (someL n ps ws).any (fun l => decide (z ∈ l.items)) := by
    rw [Bool.eq_iff_iff, List.any_eq_true, List.any_eq_true]
    exact ⟨fun ⟨x, hx, h⟩ => ⟨x, p.mem_iff.mpr hx, h⟩, fun ⟨x, hx, h⟩ => ⟨x, p.mem_iff.mp hx, h⟩⟩
  unfold sayOf
  rw [e1, e2]
  by_cases a : (someL n ps ws).all (fun l => decide (z ∈ l.items)) = true
  · rw [if_pos a, if_pos]
    rw [List.filter_eq_self.mpr (List.all_eq_true.mp a)]
  · have hne : ¬ ((someL n ps ws).filter fun l => decide (z ∈ l.items)).length = (someL n ps ws).length := fun e => by
      have := (List.filter_sublist (p := fun l : LT => decide (z ∈ l.items)) (l := someL n ps ws)).eq_of_length e
      rw [List.filter_eq_self] at this
      exact a (List.all_eq_true.mpr this)
    by_cases b : (someL n ps ws).any (fun l => decide (z ∈ l.items)) = true
    · have h0 : ¬ ((someL n ps ws).filter fun l => decide (z ∈ l.items)).length = 0 := fun e => by
        rw [List.length_eq_zero_iff, List.filter_eq_nil_iff] at e
        obtain ⟨x, hx, h⟩ := List.any_eq_true.mp b
        exact e x hx h
      rw [if_neg a, if_pos b, if_neg hne, if_neg h0]
    · have h0 : ((someL n ps ws).filter fun l => decide (z ∈ l.items)).length = 0 := by
        rw [List.length_eq_zero_iff, List.filter_eq_nil_iff]
        intro x hx h
        exact b (List.any_eq_true.mpr ⟨x, hx, h⟩)
      rw [if_neg a, if_neg b, if_neg hne, if_pos h0]
end PI

set_option Elab.async false
set_option linter.all false
set_option maxRecDepth 100000
set_option maxHeartbeats 4000000
/-! QL84: one turn of the law k84. -/
namespace PI
set_option autoImplicit false
open PySem PySem.W
def g_law84 (i_law_hand i_law_order i_law_weights i_law_draw i_law_some i_law_closed i_law_weigh i_all_best i_law_is i_least_best i_greatest_best i_in_all : Nat) : Ss := (.cons (.set (.nm 1) (.call i_law_hand (.val (.v 0) .nil))) (.cons (.for (.nm 2) (.rng1 (.con (.int 6))) (.cons (.set (.nm 3) (.call i_law_order (.io 1 (.val (.con (.int 7)) .nil)))) (.cons (.set (.nm 4) (.call i_law_weights (.io 1 (.val (.ix (.v 3) (.con (.int 0))) .nil)))) (.cons (.iff (.cmp .eq (.call i_law_draw (.io 1 (.val (.con (.int 2)) .nil))) (.con (.int 0))) (.cons (.set (.nm 4) (.bi .tup (.cons (.comp (.call i_law_some (.io 1 (.val (.lst (.cons (.con (.int 0)) (.cons (.con (.int 0)) (.cons (.con (.int 1)) (.cons (.neg (.con (.int 1))) .nil))))) .nil))) (.nm 10) (.rng1 (.ix (.v 3) (.con (.int 0)))) .nil) .nil))) .nil) .nil) (.cons (.set (.nm 5) (.call i_law_closed (.val (.v 3) .nil))) (.cons (.set (.nm 6) (.bi .mx (.cons (.comp (.call i_law_weigh (.val (.v 4) (.val (.v 14) .nil))) (.nm 14) (.seq (.v 5)) .nil) .nil))) (.cons (.set (.nm 7) (.comp (.v 14) (.nm 14) (.seq (.v 5)) (.cons (.cmp .eq (.call i_law_weigh (.val (.v 4) (.val (.v 14) .nil))) (.v 6)) .nil))) (.cons (.set (.nm 8) (.call i_all_best (.val (.v 3) (.val (.v 4) .nil)))) (.cons (.iff (.not (.call i_law_is (.val (.v 8) (.val (.bi .tup (.cons (.bi .srt (.cons (.v 7) .nil)) .nil)) .nil)))) (.cons (.ret (.con (.bool false))) .nil) .nil) (.cons (.iff (.or (.not (.call i_law_is (.val (.call i_least_best (.val (.v 3) (.val (.v 4) .nil))) (.val (.ix (.v 7) (.con (.int 0))) .nil)))) (.not (.call i_law_is (.val (.call i_greatest_best (.val (.v 3) (.val (.v 4) .nil))) (.val (.ix (.v 7) (.neg (.con (.int 1)))) .nil))))) (.cons (.ret (.con (.bool false))) .nil) .nil) (.cons (.for (.nm 9) (.seq (.v 7)) (.cons (.iff (.or (.not (.bi .all (.cons (.comp (.cmp .isin (.v 10) (.v 9)) (.nm 10) (.seq (.ix (.v 7) (.con (.int 0)))) .nil) .nil))) (.not (.bi .all (.cons (.comp (.cmp .isin (.v 10) (.ix (.v 7) (.neg (.con (.int 1))))) (.nm 10) (.seq (.v 9)) .nil) .nil)))) (.cons (.ret (.con (.bool false))) .nil) .nil) (.cons (.set (.nm 11) (.call i_law_some (.io 1 (.val (.v 7) .nil)))) (.cons (.iff (.cmp .notin (.bi .tup (.cons (.comp (.v 10) (.nm 10) (.seq (.v 9)) (.cons (.cmp .isin (.v 10) (.v 11)) .nil)) .nil)) (.v 8)) (.cons (.ret (.con (.bool false))) .nil) .nil) (.cons (.iff (.cmp .notin (.bi .tup (.cons (.bi .srt (.cons (.bi .dic (.cons (.comp (.tup (.cons (.v 10) (.cons (.con (.int 1)) .nil))) (.nm 10) (.seq (.op2 .add (.v 9) (.v 11))) .nil) .nil)) .nil)) .nil)) (.v 8)) (.cons (.ret (.con (.bool false))) .nil) .nil) (.cons (.wipe [9, 11]) .nil)))))) (.cons (.for (.nm 10) (.rng1 (.ix (.v 3) (.con (.int 0)))) (.cons (.set (.nm 12) (.bi .len (.cons (.comp (.v 14) (.nm 14) (.seq (.v 7)) (.cons (.cmp .isin (.v 10) (.v 14)) .nil)) .nil))) (.cons (.set (.nm 13) (.ite (.cmp .eq (.v 12) (.bi .len (.cons (.v 7) .nil))) (.con (.str "always")) (.ite (.cmp .eq (.v 12) (.con (.int 0))) (.con (.str "never")) (.con (.str "sometimes"))))) (.cons (.iff (.not (.call i_law_is (.val (.call i_in_all (.val (.v 3) (.val (.v 4) (.val (.v 10) .nil)))) (.val (.v 13) .nil)))) (.cons (.ret (.con (.bool false))) .nil) .nil) (.cons (.wipe [10, 12, 13]) .nil))))) (.cons (.wipe [2, 3, 4, 5, 6, 7, 8, 9, 10, 11, 12, 13]) .nil))))))))))))) (.cons (.ret (.con (.bool true))) .nil)))
def WeightsOk (C : Ctx) (k : Nat) : Prop := ∀ (h : D) (n : Nat), HandOk h → n ≤ 1000 → ∃ ws h', C.cal k [.io h, .sh (.int n)] = some (false, wsD ws, [h']) ∧ WsOk n ws ∧ HandOk h'
def wl : List D := wsList.map PyData.int
theorem wl_in {d : D} (h : d ∈ wl) : ∃ w : Int, d = .int w ∧ -1000 ≤ w ∧ w ≤ 1000 := by
  obtain ⟨w, hw, rfl⟩ := List.mem_map.mp h
  refine ⟨w, rfl, ?_⟩
  simp only [wsList, List.mem_cons, List.not_mem_nil, or_false] at hw
  omega
theorem weights_ok {C : Ctx} {i_law_some : Nat} (hs : SomeOk C i_law_some) {h : D} {n : Nat} (hh : HandOk h) (hn : n ≤ 1000) : ∃ ws h', callB C 4 (g_law_weights i_law_some) [.io h, .sh (.int n)] = some (false, wsD ws, [h']) ∧ WsOk n ws ∧ HandOk h' := by
  unfold callB g_law_weights
  rw [show startE 4 [Ar.io h, .sh (.int n)] = [.ow (some 0) h, .sh (.int n), .un, .un] from rfl]
  have hr : evI C (.rng1 (.v 1)) [.ow (some 0) h, .sh (.int n), .ow none (.list wl), .un] = some ((List.range n).map fun k => (PyData.int (k : Nat)), [.ow (some 0) h, .sh (.int n), .ow none (.list wl), .un]) := by
    simp only [q_v, q_con, q_glo, q_no, q_tup, q_lst, q_dnk, q_op2, q_neg, q_cmp, q_cmp2, q_and, q_or, q_not, q_ite, q_bi, q_lrng, q_mu, q_call, q_ix, q_sl, q_rev, q_lnil, q_lcons, q_rnil, q_rcons, q_fnil, q_fcons, q_anil, q_aval, q_aio, q_seq, q_rng1, q_rng2, q_zip, q_enm, q_T, q_sh, q_fr, q_pk, q_fsh, q_ffr, q_fpk, q_cnil, q_ccons, q_aanil, q_aash, q_aaio, q_gnil, q_gcons, q_pnm, q_pix, q_rsh, q_rfr, q_rpk, q_Nnil, q_Ncons, q_Pnil, q_Pcons, q_tsh, q_tfr, q_tpk, q_Sexpr, q_Sset, q_Spar, q_Sunp, q_Siff, q_Sret, q_SretN, q_Swipe, q_SSnil, q_SScons, q_at0, q_atS, q_wnil, q_wcons, q_bnm, q_btp, q_btl, q_snil, q_scons, q_comp, q_dcomp, q_onil, q_osh, q_oio, Option.bind_some, Option.map_some, Option.bind_none, Option.map_none, List.set_cons_zero, List.set_cons_succ, Tg.slots, muK, muF, if_true, Bool.false_eq_true, if_false, ix_0, ix_1, ix_2, ix_3, ix_4, ixt_0, ixt_1, sx_1, sx_2, sx_3, sx_4, eq_int, ne_int, lt_int, gt_int, le_int, ge_int, isin_ev, notin_ev, add_int, sub_int, pow_10_18, tr_bool, io_int, so_list, so_tup, len_list, len_tup, int_int, abs_int, tup_list, tup_tup, lst_list, lst_tup, apSlots, Bool.not_true, Bool.not_false, decide_true, decide_false, reduceIte, reduceCtorEq, Nat.reduceAdd, List.length_map]
    rw [if_pos (by omega), rng_int]
  have cg := comp_go (C := C) (elt := (.call i_law_some (.io 0 (.val (.v 2) .nil)))) (tg := .nm 3) (ifs := .nil) hr (fun i out ρ => ∃ h' x ws, ρ = [.ow (some 0) h', .sh (.int n), x, .un] ∧ (x = .ow none (.list wl) ∨ x = .sh (.list wl)) ∧ HandOk h' ∧ out = ws.map PyData.int ∧ ws.length = i ∧ ∀ w ∈ ws, -1000 ≤ w ∧ w ≤ 1000)
    ⟨h, _, [], rfl, .inl rfl, hh, rfl, rfl, nofun⟩ (fun i k out ρ2 hi hI => ?_)
  · obtain ⟨out, ρ2, e, h', x, ws, rfl, hx, hh', rfl, len, wn⟩ := cg
    rw [List.length_range] at len
    refine ⟨ws, h', ?_, ⟨len, wn⟩, hh'⟩
    simp only [q_v, q_con, q_glo, q_no, q_tup, q_lst, q_dnk, q_op2, q_neg, q_cmp, q_cmp2, q_and, q_or, q_not, q_ite, q_bi, q_lrng, q_mu, q_call, q_ix, q_sl, q_rev, q_lnil, q_lcons, q_rnil, q_rcons, q_fnil, q_fcons, q_anil, q_aval, q_aio, q_seq, q_rng1, q_rng2, q_zip, q_enm, q_T, q_sh, q_fr, q_pk, q_fsh, q_ffr, q_fpk, q_cnil, q_ccons, q_aanil, q_aash, q_aaio, q_gnil, q_gcons, q_pnm, q_pix, q_rsh, q_rfr, q_rpk, q_Nnil, q_Ncons, q_Pnil, q_Pcons, q_tsh, q_tfr, q_tpk, q_Sexpr, q_Sset, q_Spar, q_Sunp, q_Siff, q_Sret, q_SretN, q_Swipe, q_SSnil, q_SScons, q_at0, q_atS, q_wnil, q_wcons, q_bnm, q_btp, q_btl, q_snil, q_scons, q_comp, q_dcomp, q_onil, q_osh, q_oio, Option.bind_some, Option.map_some, Option.bind_none, Option.map_none, List.set_cons_zero, List.set_cons_succ, Tg.slots, muK, muF, if_true, Bool.false_eq_true, if_false, ix_0, ix_1, ix_2, ix_3, ix_4, ixt_0, ixt_1, sx_1, sx_2, sx_3, sx_4, eq_int, ne_int, lt_int, gt_int, le_int, ge_int, isin_ev, notin_ev, add_int, sub_int, pow_10_18, tr_bool, io_int, so_list, so_tup, len_list, len_tup, int_int, abs_int, tup_list, tup_tup, lst_list, lst_tup, apSlots, Bool.not_true, Bool.not_false, decide_true, decide_false, reduceIte, reduceCtorEq, Nat.reduceAdd, List.length_map, Int.reduceNeg]
    rw [show (PyData.list [.int 0, .int 1, .int 2, .int 3, .int 5, .int 7, .int 10, .int (-1), .int (-2), .int (-3), .int (-5), .int (-8), .int (-10), .int 1000, .int (-1000)]) = .list wl from rfl]
    simp only [q_v, q_con, q_glo, q_no, q_tup, q_lst, q_dnk, q_op2, q_neg, q_cmp, q_cmp2, q_and, q_or, q_not, q_ite, q_bi, q_lrng, q_mu, q_call, q_ix, q_sl, q_rev, q_lnil, q_lcons, q_rnil, q_rcons, q_fnil, q_fcons, q_anil, q_aval, q_aio, q_seq, q_rng1, q_rng2, q_zip, q_enm, q_T, q_sh, q_fr, q_pk, q_fsh, q_ffr, q_fpk, q_cnil, q_ccons, q_aanil, q_aash, q_aaio, q_gnil, q_gcons, q_pnm, q_pix, q_rsh, q_rfr, q_rpk, q_Nnil, q_Ncons, q_Pnil, q_Pcons, q_tsh, q_tfr, q_tpk, q_Sexpr, q_Sset, q_Spar, q_Sunp, q_Siff, q_Sret, q_SretN, q_Swipe, q_SSnil, q_SScons, q_at0, q_atS, q_wnil, q_wcons, q_bnm, q_btp, q_btl, q_snil, q_scons, q_comp, q_dcomp, q_onil, q_osh, q_oio, Option.bind_some, Option.map_some, Option.bind_none, Option.map_none, List.set_cons_zero, List.set_cons_succ, Tg.slots, muK, muF, if_true, Bool.false_eq_true, if_false, ix_0, ix_1, ix_2, ix_3, ix_4, ixt_0, ixt_1, sx_1, sx_2, sx_3, sx_4, eq_int, ne_int, lt_int, gt_int, le_int, ge_int, isin_ev, notin_ev, add_int, sub_int, pow_10_18, tr_bool, io_int, so_list, so_tup, len_list, len_tup, int_int, abs_int, tup_list, tup_tup, lst_list, lst_tup, apSlots, Bool.not_true, Bool.not_false, decide_true, decide_false, reduceIte, reduceCtorEq, Nat.reduceAdd, List.length_map, e, backE]
    rfl
  · obtain ⟨h', x, ws, rfl, hx, hh', rfl, len, wn⟩ := hI
    obtain ⟨d, h2, e, hd, hh2⟩ := hs h' wl hh' (by decide) (by decide)
    obtain ⟨w, rfl, w1⟩ := wl_in hd
    have fin : ∀ z ∈ ws ++ [w], -1000 ≤ z ∧ z ≤ 1000 := fun z hz => by
      rcases List.mem_append.mp hz with hz | hz
      · exact wn z hz
      · rw [List.mem_singleton.mp hz]; exact w1
    refine ⟨some (.int w), [.ow (some 0) h2, .sh (.int n), .sh (.list wl), .un], ?_, h2, _, ws ++ [w], rfl, .inr rfl, hh2, by simp, by simp [len], fin⟩
    rcases hx with rfl | rfl
    · simp only [q_v, q_con, q_glo, q_no, q_tup, q_lst, q_dnk, q_op2, q_neg, q_cmp, q_cmp2, q_and, q_or, q_not, q_ite, q_bi, q_lrng, q_mu, q_call, q_ix, q_sl, q_rev, q_lnil, q_lcons, q_rnil, q_rcons, q_fnil, q_fcons, q_anil, q_aval, q_aio, q_seq, q_rng1, q_rng2, q_zip, q_enm, q_T, q_sh, q_fr, q_pk, q_fsh, q_ffr, q_fpk, q_cnil, q_ccons, q_aanil, q_aash, q_aaio, q_gnil, q_gcons, q_pnm, q_pix, q_rsh, q_rfr, q_rpk, q_Nnil, q_Ncons, q_Pnil, q_Pcons, q_tsh, q_tfr, q_tpk, q_Sexpr, q_Sset, q_Spar, q_Sunp, q_Siff, q_Sret, q_SretN, q_Swipe, q_SSnil, q_SScons, q_at0, q_atS, q_wnil, q_wcons, q_bnm, q_btp, q_btl, q_snil, q_scons, q_comp, q_dcomp, q_onil, q_osh, q_oio, Option.bind_some, Option.map_some, Option.bind_none, Option.map_none, List.set_cons_zero, List.set_cons_succ, Tg.slots, muK, muF, if_true, Bool.false_eq_true, if_false, ix_0, ix_1, ix_2, ix_3, ix_4, ixt_0, ixt_1, sx_1, sx_2, sx_3, sx_4, eq_int, ne_int, lt_int, gt_int, le_int, ge_int, isin_ev, notin_ev, add_int, sub_int, pow_10_18, tr_bool, io_int, so_list, so_tup, len_list, len_tup, int_int, abs_int, tup_list, tup_tup, lst_list, lst_tup, apSlots, Bool.not_true, Bool.not_false, decide_true, decide_false, reduceIte, reduceCtorEq, Nat.reduceAdd, List.length_map, e, List.nodup_cons, List.not_mem_nil, not_false_eq_true, List.nodup_nil, and_self]
    · simp only [q_v, q_con, q_glo, q_no, q_tup, q_lst, q_dnk, q_op2, q_neg, q_cmp, q_cmp2, q_and, q_or, q_not, q_ite, q_bi, q_lrng, q_mu, q_call, q_ix, q_sl, q_rev, q_lnil, q_lcons, q_rnil, q_rcons, q_fnil, q_fcons, q_anil, q_aval, q_aio, q_seq, q_rng1, q_rng2, q_zip, q_enm, q_T, q_sh, q_fr, q_pk, q_fsh, q_ffr, q_fpk, q_cnil, q_ccons, q_aanil, q_aash, q_aaio, q_gnil, q_gcons, q_pnm, q_pix, q_rsh, q_rfr, q_rpk, q_Nnil, q_Ncons, q_Pnil, q_Pcons, q_tsh, q_tfr, q_tpk, q_Sexpr, q_Sset, q_Spar, q_Sunp, q_Siff, q_Sret, q_SretN, q_Swipe, q_SSnil, q_SScons, q_at0, q_atS, q_wnil, q_wcons, q_bnm, q_btp, q_btl, q_snil, q_scons, q_comp, q_dcomp, q_onil, q_osh, q_oio, Option.bind_some, Option.map_some, Option.bind_none, Option.map_none, List.set_cons_zero, List.set_cons_succ, Tg.slots, muK, muF, if_true, Bool.false_eq_true, if_false, ix_0, ix_1, ix_2, ix_3, ix_4, ixt_0, ixt_1, sx_1, sx_2, sx_3, sx_4, eq_int, ne_int, lt_int, gt_int, le_int, ge_int, isin_ev, notin_ev, add_int, sub_int, pow_10_18, tr_bool, io_int, so_list, so_tup, len_list, len_tup, int_int, abs_int, tup_list, tup_tup, lst_list, lst_tup, apSlots, Bool.not_true, Bool.not_false, decide_true, decide_false, reduceIte, reduceCtorEq, Nat.reduceAdd, List.length_map, e, List.nodup_cons, List.not_mem_nil, not_false_eq_true, List.nodup_nil, and_self]
inductive Nice : D → Prop
  | int (i : Int) : Nice (.int i)
  | str (x : Str) : Nice (.str x)
  | lot (l : LT) : Nice (el l)
  | lots (ls : List LT) : Nice (.tuple (ls.map el))
def LikeOk (C : Ctx) (k : Nat) : Prop := ∀ d, Nice d → C.cal k [.sh d, .sh d] = some (false, .bool true, [])
theorem ix_last {xs : List D} (h : xs ≠ []) : ixEv (.list xs) (.int (-1)) = some (xs.getLast h) := by
  have hl : 0 < xs.length := List.length_pos_iff.mpr h
  unfold ixEv
  have : placeOf xs.length (-1) = some (xs.length - 1) := by
    unfold placeOf
    rw [if_neg (by omega), if_pos (by omega)]
    rfl
  simp only [this, Option.bind_some]
  rw [← List.getLast?_eq_getElem?, List.getLast?_eq_some_getLast h]
theorem ix_head {xs : List D} (h : xs ≠ []) : ixEv (.list xs) (.int 0) = some (xs.head h) := by
  cases xs with
  | nil => exact absurd rfl h
  | cons x xs => exact ix_0
theorem wt_law {C : Ctx} (ws : List Int) (l : LT) (h : ∀ z ∈ l.items, 0 ≤ z ∧ z < ws.length) : callB C 3 g_law_weigh [.sh (wsD ws), .sh (el l)] = some (false, .int (wt ws l), []) := weight_ok ws l h
/-- a dict of whole numbers, sorted: the numbers, each once -/
theorem dput_old {α : Type} [DecidableEq α] [Datum α] {ks : List α} {k : α} {v : D} (h : k ∈ ks) : dput (ks.map fun k => (Datum.toD k, v)) (Datum.toD k) v = ks.map fun k => (Datum.toD k, v) := by
  unfold dput
  rw [if_pos]
  · rw [List.map_map]
    refine List.map_congr_left fun x _ => ?_
    simp only [Function.comp]
    split <;> rfl
  · rw [List.any_map]
    refine List.any_eq_true.mpr ⟨k, h, ?_⟩
    simp only [Function.comp]
    rw [Datum.eqv, decide_eq_true_eq]
def ddup {α : Type} [DecidableEq α] (acc : List α) : List α → List α
  | [] => acc
  | x :: xs => ddup (if x ∈ acc then acc else acc ++ [x]) xs
theorem dmerge_dup {α : Type} [DecidableEq α] [Datum α] {v : D} : ∀ {ms ks : List α}, dmerge (ks.map fun k => (Datum.toD k, v)) (ms.map fun k => (Datum.toD k, v)) = (ddup ks ms).map fun k => (Datum.toD k, v)
  | [], ks => rfl
  | m :: ms, ks => by
    show dmerge (dput (ks.map fun k => (Datum.toD k, v)) (Datum.toD m) v) (ms.map fun k => (Datum.toD k, v)) = _
    unfold ddup
    by_cases h : m ∈ ks
    · rw [dput_old h, if_pos h]
      exact dmerge_dup
    · rw [dput_new h, if_neg h]
      rw [show (ks.map fun k => (Datum.toD k, v)) ++ [(Datum.toD m, v)] = (ks ++ [m]).map fun k => (Datum.toD k, v) by rw [List.map_append]; rfl]
      exact dmerge_dup
theorem ddup_ok {α : Type} [DecidableEq α] : ∀ {xs acc : List α}, acc.Nodup → (ddup acc xs).Nodup ∧ ∀ z, z ∈ ddup acc xs ↔ z ∈ acc ∨ z ∈ xs
  | [], acc, h => ⟨h, fun z => by simp [ddup]⟩
  | x :: xs, acc, h => by
    unfold ddup
    by_cases q : x ∈ acc
    · rw [if_pos q]
      obtain ⟨a, b⟩ := ddup_ok (xs := xs) h
      refine ⟨a, fun z => ?_⟩
      rw [b, List.mem_cons]
      constructor
      · rintro (y | y)
        · exact .inl y
        · exact .inr (.inr y)
      · rintro (y | rfl | y)
        · exact .inl y
        · exact .inl q
        · exact .inr y
    · rw [if_neg q]
      obtain ⟨a, b⟩ := ddup_ok (xs := xs) (acc := acc ++ [x]) (List.nodup_append.mpr ⟨h, by simp, fun a ha b hb e => by
        rw [List.mem_singleton.mp hb] at e
        exact q (e ▸ ha)⟩)
      refine ⟨a, fun z => ?_⟩
      rw [b, List.mem_append, List.mem_singleton, List.mem_cons, or_assoc]
theorem int_kind (f : List Int) : oneKind (f.map PyData.int) = true := by
  unfold oneKind
  rw [Bool.or_eq_true]
  left
  refine List.all_eq_true.mpr fun d hd => ?_
  obtain ⟨p, _, rfl⟩ := List.mem_map.mp hd
  rfl
theorem dic_ints (f : List Int) : biEv .dic [.list (f.map fun p => .tuple [.int p, .int 1])] = some (.fr (.dict ((ddup [] f).map fun p => (PyData.int p, PyData.int 1)))) := by
  simp only [biEv, pairs_of PyData.int (fun _ => PyData.int 1), Option.bind_some]
  rw [show ((f.map fun p => (PyData.int p, PyData.int 1)).map (·.1)) = f.map PyData.int by rw [List.map_map]; rfl, if_pos (int_kind f)]
  exact congrArg (fun z => some (RV.fr (PyData.dict z))) (dmerge_dup (α := Int) (v := PyData.int 1) (ms := f) (ks := []))
theorem srt_ints (f : List Int) : biEv .srt [.dict (f.map fun p => (PyData.int p, PyData.int 1))] = some (.fr (.list ((srtT f).map PyData.int))) := by
  simp only [biEv]
  rw [show ((f.map fun p => (PyData.int p, PyData.int 1)).map (·.1)) = f.map PyData.int by rw [List.map_map]; rfl, if_pos (int_kind f)]
  have := srt_enc (α := Int) (by decide) f
  rw [show f.map PyData.int = f.map Datum.toD from rfl, this]
  rfl
theorem union_lot {n : Nat} {l m : LT} (hl : l ∈ lotsM n) (hm : m ∈ lotsM n) : srtT (ddup [] (l.items ++ m.items)) = (jn n l m).items := by
  obtain ⟨a, b⟩ := ddup_ok (xs := l.items ++ m.items) (acc := ([] : List Int)) List.nodup_nil
  have asc := (lotsM_mem.mp (jn_lot n l m)).1
  refine srtT_eq ?_ (asc.imp fun {x y} q => ?_)
  · refine (List.perm_ext_iff_of_nodup (asc_nodup asc) a).mpr fun z => ?_
    rw [jn_mem hl hm, b]
    simp
  · show (!decide (y < x)) = true
    simp only [Bool.not_eq_true', decide_eq_false_iff_not]
    omega

section
variable {C : Ctx} {i_law_hand i_law_order i_law_weights i_law_draw i_law_some i_law_closed i_law_weigh i_all_best i_law_is i_least_best i_greatest_best i_in_all : Nat}
structure L84 (C : Ctx) (i_law_hand i_law_order i_law_weights i_law_draw i_law_some i_law_closed i_law_weigh i_all_best i_law_is i_least_best i_greatest_best i_in_all : Nat) : Prop where
  hand : ∀ ns : List Int, ns.length ≤ 63 → ∃ h, C.cal i_law_hand [.sh (scrOf ns)] = some (true, h, []) ∧ HandOk h
  order : OrderOk C i_law_order 7
  weights : WeightsOk C i_law_weights
  draw : DrawOk C i_law_draw
  some' : SomeOk C i_law_some
  closed : LClosedOk C i_law_closed
  weigh : WtOk C i_law_weigh
  allb : AllBOk C i_all_best
  like : LikeOk C i_law_is
  least : LeastOk C i_least_best
  great : GreatOk C i_greatest_best
  inall : InAllOk C i_in_all
def env84 (s h : D) (x2 x3 x4 x5 x6 x7 x8 x9 x10 x11 x12 x13 x14 : Sl) : Env := [.sh s, .ow none h, x2, x3, x4, x5, x6, x7, x8, x9, x10, x11, x12, x13, x14]
/-- other weights, now and then -/
theorem weights84 (L : L84 C i_law_hand i_law_order i_law_weights i_law_draw i_law_some i_law_closed i_law_weigh i_all_best i_law_is i_least_best i_greatest_best i_in_all) {s h : D} {t : Int} {n : Nat} {ps : List PR} {ws : List Int} (hh : HandOk h) (hn : n ≤ 7) (hw : WsOk n ws) :
    ∃ ws' h', evS C (.iff (.cmp .eq (.call i_law_draw (.io 1 (.val (.con (.int 2)) .nil))) (.con (.int 0))) (.cons (.set (.nm 4) (.bi .tup (.cons (.comp (.call i_law_some (.io 1 (.val (.lst (.cons (.con (.int 0)) (.cons (.con (.int 0)) (.cons (.con (.int 1)) (.cons (.neg (.con (.int 1))) .nil))))) .nil))) (.nm 10) (.rng1 (.ix (.v 3) (.con (.int 0)))) .nil) .nil))) .nil) .nil) [.sh s, .ow none h, .sh (.int t), .sh (ordD n ps), .sh (wsD ws), .un, .un, .un, .un, .un, .un, .un, .un, .un, .un] = some (.nx, [.sh s, .ow none h', .sh (.int t), .sh (ordD n ps), .sh (wsD ws'), .un, .un, .un, .un, .un, .un, .un, .un, .un, .un]) ∧ WsOk n ws' ∧ HandOk h' := by
  obtain ⟨fig, h1, e, a1, a2, hh1⟩ := L.draw h 2 hh (by omega) (by omega)
  have ix : ixEv (ordD n ps) (.int 0) = some (.int n) := ixt_0
  by_cases hf : fig = 0
  · subst hf
    have hr : evI C (.rng1 (.ix (.v 3) (.con (.int 0)))) [.sh s, .ow none h1, .sh (.int t), .sh (ordD n ps), .sh (wsD ws), .un, .un, .un, .un, .un, .un, .un, .un, .un, .un] = some ((List.range n).map fun k => (PyData.int (k : Nat)), [.sh s, .ow none h1, .sh (.int t), .sh (ordD n ps), .sh (wsD ws), .un, .un, .un, .un, .un, .un, .un, .un, .un, .un]) := by
      simp only [q_v, q_con, q_glo, q_no, q_tup, q_lst, q_dnk, q_op2, q_neg, q_cmp, q_cmp2, q_and, q_or, q_not, q_ite, q_bi, q_lrng, q_mu, q_call, q_ix, q_sl, q_rev, q_lnil, q_lcons, q_rnil, q_rcons, q_fnil, q_fcons, q_anil, q_aval, q_aio, q_seq, q_rng1, q_rng2, q_zip, q_enm, q_T, q_sh, q_fr, q_pk, q_fsh, q_ffr, q_fpk, q_cnil, q_ccons, q_aanil, q_aash, q_aaio, q_gnil, q_gcons, q_pnm, q_pix, q_rsh, q_rfr, q_rpk, q_Nnil, q_Ncons, q_Pnil, q_Pcons, q_tsh, q_tfr, q_tpk, q_Sexpr, q_Sset, q_Spar, q_Sunp, q_Siff, q_Sret, q_SretN, q_Swipe, q_SSnil, q_SScons, q_at0, q_atS, q_wnil, q_wcons, q_bnm, q_btp, q_btl, q_snil, q_scons, q_comp, q_dcomp, q_onil, q_osh, q_oio, Option.bind_some, Option.map_some, Option.bind_none, Option.map_none, List.set_cons_zero, List.set_cons_succ, Tg.slots, muK, muF, if_true, Bool.false_eq_true, if_false, ix_0, ix_1, ix_2, ix_3, ix_4, ixt_0, ixt_1, sx_1, sx_2, sx_3, sx_4, eq_int, ne_int, lt_int, gt_int, le_int, ge_int, isin_ev, notin_ev, add_int, sub_int, pow_10_18, tr_bool, io_int, so_list, so_tup, len_list, len_tup, int_int, abs_int, tup_list, tup_tup, lst_list, lst_tup, apSlots, Bool.not_true, Bool.not_false, decide_true, decide_false, reduceIte, reduceCtorEq, Nat.reduceAdd, List.length_map, ix]
      rw [if_pos (by omega), rng_int]
    have cg := comp_go (C := C) (elt := (.call i_law_some (.io 1 (.val (.lst (.cons (.con (.int 0)) (.cons (.con (.int 0)) (.cons (.con (.int 1)) (.cons (.neg (.con (.int 1))) .nil))))) .nil)))) (tg := .nm 10) (ifs := .nil) hr (fun i out ρ => ∃ h' ws', ρ = [.sh s, .ow none h', .sh (.int t), .sh (ordD n ps), .sh (wsD ws), .un, .un, .un, .un, .un, .un, .un, .un, .un, .un] ∧ HandOk h' ∧ out = ws'.map PyData.int ∧ ws'.length = i ∧ ∀ w ∈ ws', -1000 ≤ w ∧ w ≤ 1000)
      ⟨h1, [], rfl, hh1, rfl, rfl, nofun⟩ (fun i k out ρ2 hi hI => ?_)
    · obtain ⟨out, ρ2, e2, h', ws', rfl, hh', rfl, len, wn⟩ := cg
      rw [List.length_range] at len
      refine ⟨ws', h', ?_, ⟨len, wn⟩, hh'⟩
      simp only [q_v, q_con, q_glo, q_no, q_tup, q_lst, q_dnk, q_op2, q_neg, q_cmp, q_cmp2, q_and, q_or, q_not, q_ite, q_bi, q_lrng, q_mu, q_call, q_ix, q_sl, q_rev, q_lnil, q_lcons, q_rnil, q_rcons, q_fnil, q_fcons, q_anil, q_aval, q_aio, q_seq, q_rng1, q_rng2, q_zip, q_enm, q_T, q_sh, q_fr, q_pk, q_fsh, q_ffr, q_fpk, q_cnil, q_ccons, q_aanil, q_aash, q_aaio, q_gnil, q_gcons, q_pnm, q_pix, q_rsh, q_rfr, q_rpk, q_Nnil, q_Ncons, q_Pnil, q_Pcons, q_tsh, q_tfr, q_tpk, q_Sexpr, q_Sset, q_Spar, q_Sunp, q_Siff, q_Sret, q_SretN, q_Swipe, q_SSnil, q_SScons, q_at0, q_atS, q_wnil, q_wcons, q_bnm, q_btp, q_btl, q_snil, q_scons, q_comp, q_dcomp, q_onil, q_osh, q_oio, Option.bind_some, Option.map_some, Option.bind_none, Option.map_none, List.set_cons_zero, List.set_cons_succ, Tg.slots, muK, muF, if_true, Bool.false_eq_true, if_false, ix_0, ix_1, ix_2, ix_3, ix_4, ixt_0, ixt_1, sx_1, sx_2, sx_3, sx_4, eq_int, ne_int, lt_int, gt_int, le_int, ge_int, isin_ev, notin_ev, add_int, sub_int, pow_10_18, tr_bool, io_int, so_list, so_tup, len_list, len_tup, int_int, abs_int, tup_list, tup_tup, lst_list, lst_tup, apSlots, Bool.not_true, Bool.not_false, decide_true, decide_false, reduceIte, reduceCtorEq, Nat.reduceAdd, List.length_map, e, e2, backE, List.nodup_cons, List.not_mem_nil, not_false_eq_true, List.nodup_nil, and_self]
      rfl
    · obtain ⟨h', ws', rfl, hh', rfl, len, wn⟩ := hI
      obtain ⟨d, h2, e2, hd, hh2⟩ := L.some' h' [.int 0, .int 0, .int 1, .int (-1)] hh' (by decide) (by decide)
      obtain ⟨w, rfl, w1⟩ : ∃ w : Int, d = .int w ∧ -1000 ≤ w ∧ w ≤ 1000 := by
        simp only [List.mem_cons, List.not_mem_nil, or_false] at hd
        rcases hd with rfl | rfl | rfl | rfl <;> exact ⟨_, rfl, by omega⟩
      have fin : ∀ z ∈ ws' ++ [w], -1000 ≤ z ∧ z ≤ 1000 := fun z hz => by
        rcases List.mem_append.mp hz with hz | hz
        · exact wn z hz
        · rw [List.mem_singleton.mp hz]; exact w1
      refine ⟨some (.int w), [.sh s, .ow none h2, .sh (.int t), .sh (ordD n ps), .sh (wsD ws), .un, .un, .un, .un, .un, .un, .un, .un, .un, .un], ?_, h2, ws' ++ [w], rfl, hh2, by simp, by simp [len], fin⟩
      simp only [q_v, q_con, q_glo, q_no, q_tup, q_lst, q_dnk, q_op2, q_neg, q_cmp, q_cmp2, q_and, q_or, q_not, q_ite, q_bi, q_lrng, q_mu, q_call, q_ix, q_sl, q_rev, q_lnil, q_lcons, q_rnil, q_rcons, q_fnil, q_fcons, q_anil, q_aval, q_aio, q_seq, q_rng1, q_rng2, q_zip, q_enm, q_T, q_sh, q_fr, q_pk, q_fsh, q_ffr, q_fpk, q_cnil, q_ccons, q_aanil, q_aash, q_aaio, q_gnil, q_gcons, q_pnm, q_pix, q_rsh, q_rfr, q_rpk, q_Nnil, q_Ncons, q_Pnil, q_Pcons, q_tsh, q_tfr, q_tpk, q_Sexpr, q_Sset, q_Spar, q_Sunp, q_Siff, q_Sret, q_SretN, q_Swipe, q_SSnil, q_SScons, q_at0, q_atS, q_wnil, q_wcons, q_bnm, q_btp, q_btl, q_snil, q_scons, q_comp, q_dcomp, q_onil, q_osh, q_oio, Option.bind_some, Option.map_some, Option.bind_none, Option.map_none, List.set_cons_zero, List.set_cons_succ, Tg.slots, muK, muF, if_true, Bool.false_eq_true, if_false, ix_0, ix_1, ix_2, ix_3, ix_4, ixt_0, ixt_1, sx_1, sx_2, sx_3, sx_4, eq_int, ne_int, lt_int, gt_int, le_int, ge_int, isin_ev, notin_ev, add_int, sub_int, pow_10_18, tr_bool, io_int, so_list, so_tup, len_list, len_tup, int_int, abs_int, tup_list, tup_tup, lst_list, lst_tup, apSlots, Bool.not_true, Bool.not_false, decide_true, decide_false, reduceIte, reduceCtorEq, Nat.reduceAdd, List.length_map, e2, List.nodup_cons, List.not_mem_nil, not_false_eq_true, List.nodup_nil, and_self]
  · refine ⟨ws, h1, ?_, hw, hh1⟩
    simp only [q_v, q_con, q_glo, q_no, q_tup, q_lst, q_dnk, q_op2, q_neg, q_cmp, q_cmp2, q_and, q_or, q_not, q_ite, q_bi, q_lrng, q_mu, q_call, q_ix, q_sl, q_rev, q_lnil, q_lcons, q_rnil, q_rcons, q_fnil, q_fcons, q_anil, q_aval, q_aio, q_seq, q_rng1, q_rng2, q_zip, q_enm, q_T, q_sh, q_fr, q_pk, q_fsh, q_ffr, q_fpk, q_cnil, q_ccons, q_aanil, q_aash, q_aaio, q_gnil, q_gcons, q_pnm, q_pix, q_rsh, q_rfr, q_rpk, q_Nnil, q_Ncons, q_Pnil, q_Pcons, q_tsh, q_tfr, q_tpk, q_Sexpr, q_Sset, q_Spar, q_Sunp, q_Siff, q_Sret, q_SretN, q_Swipe, q_SSnil, q_SScons, q_at0, q_atS, q_wnil, q_wcons, q_bnm, q_btp, q_btl, q_snil, q_scons, q_comp, q_dcomp, q_onil, q_osh, q_oio, Option.bind_some, Option.map_some, Option.bind_none, Option.map_none, List.set_cons_zero, List.set_cons_succ, Tg.slots, muK, muF, if_true, Bool.false_eq_true, if_false, ix_0, ix_1, ix_2, ix_3, ix_4, ixt_0, ixt_1, sx_1, sx_2, sx_3, sx_4, eq_int, ne_int, lt_int, gt_int, le_int, ge_int, isin_ev, notin_ev, add_int, sub_int, pow_10_18, tr_bool, io_int, so_list, so_tup, len_list, len_tup, int_int, abs_int, tup_list, tup_tup, lst_list, lst_tup, apSlots, Bool.not_true, Bool.not_false, decide_true, decide_false, reduceIte, reduceCtorEq, Nat.reduceAdd, List.length_map, e, decide_eq_false hf, List.nodup_cons, List.not_mem_nil, not_false_eq_true, List.nodup_nil, and_self]
theorem str_if (a b : Prop) [Decidable a] [Decidable b] : True := trivial
theorem told_in {n : Nat} {ps : List PR} {ws : List Int} {l : LT} (h : l ∈ someL n ps ws) : inEv (el l) (.tuple ((bestsP n ps ws).map el)) = some true := by
  have := in_tup (α := LT) (by decide) l (bestsP n ps ws)
  rw [show inEv (el l) (.tuple ((bestsP n ps ws).map el)) = inEv (Datum.toD l) (.tuple ((bestsP n ps ws).map Datum.toD)) from rfl, this]
  rw [decide_eq_true ((some_perm n ps ws).mem_iff.mp h)]
theorem one84 (L : L84 C i_law_hand i_law_order i_law_weights i_law_draw i_law_some i_law_closed i_law_weigh i_all_best i_law_is i_least_best i_greatest_best i_in_all) {s : D} {t : Int} {n : Nat} {ps : List PR} {ws : List Int} {l : LT} {ρ2 : Env} (n1 : 1 ≤ n) (n7 : n ≤ 7) (ho : IsOrd n ps) (hw : WsOk n ws) (hl : l ∈ someL n ps ws)
    (hI : ∃ h', ρ2 = [.sh s, .ow none h', .sh (.int t), .sh (ordD n ps), .sh (wsD ws), .sh (.list ((lawC n ps).map el)), .sh (.int (bestP n ps ws)), .sh (.list ((someL n ps ws).map el)), .sh (.tuple ((bestsP n ps ws).map el)), .un, .un, .un, .un, .un, .un] ∧ HandOk h') :
    ∃ ρ3, ((bindT (.nm 9) (el l) ρ2).bind fun ρ => evSs C (.cons (.iff (.or (.not (.bi .all (.cons (.comp (.cmp .isin (.v 10) (.v 9)) (.nm 10) (.seq (.ix (.v 7) (.con (.int 0)))) .nil) .nil))) (.not (.bi .all (.cons (.comp (.cmp .isin (.v 10) (.ix (.v 7) (.neg (.con (.int 1))))) (.nm 10) (.seq (.v 9)) .nil) .nil)))) (.cons (.ret (.con (.bool false))) .nil) .nil) (.cons (.set (.nm 11) (.call i_law_some (.io 1 (.val (.v 7) .nil)))) (.cons (.iff (.cmp .notin (.bi .tup (.cons (.comp (.v 10) (.nm 10) (.seq (.v 9)) (.cons (.cmp .isin (.v 10) (.v 11)) .nil)) .nil)) (.v 8)) (.cons (.ret (.con (.bool false))) .nil) .nil) (.cons (.iff (.cmp .notin (.bi .tup (.cons (.bi .srt (.cons (.bi .dic (.cons (.comp (.tup (.cons (.v 10) (.cons (.con (.int 1)) .nil))) (.nm 10) (.seq (.op2 .add (.v 9) (.v 11))) .nil) .nil)) .nil)) .nil)) (.v 8)) (.cons (.ret (.con (.bool false))) .nil) .nil) (.cons (.wipe [9, 11]) .nil))))) ρ) = some (.nx, ρ3) ∧ ∃ h', ρ3 = [.sh s, .ow none h', .sh (.int t), .sh (ordD n ps), .sh (wsD ws), .sh (.list ((lawC n ps).map el)), .sh (.int (bestP n ps ws)), .sh (.list ((someL n ps ws).map el)), .sh (.tuple ((bestsP n ps ws).map el)), .un, .un, .un, .un, .un, .un] ∧ HandOk h' := by
  obtain ⟨h', rfl, hh⟩ := hI
  have sne := some_ne n ps ws
  have mne : (someL n ps ws).map el ≠ [] := by simpa using sne
  have hd : ixEv (.list ((someL n ps ws).map el)) (.int 0) = some (el ((someL n ps ws).head sne)) := by rw [ix_head mne, List.head_map]
  have ls : ixEv (.list ((someL n ps ws).map el)) (.int (-1)) = some (el ((someL n ps ws).getLast sne)) := by rw [ix_last mne, List.getLast_map]
  have slen : (someL n ps ws).length < 1000000 := by
    have h1 := (some_perm n ps ws).length_eq
    have h2 : (bestsP n ps ws).length ≤ (lotsM n).length := by
      refine Nat.le_trans (List.length_filter_le _ _) (Nat.le_trans (List.length_filter_le _ _) ?_)
      rw [srtT_len]
      exact Nat.le_refl _
    rw [lotsM_len] at h2
    have := Nat.pow_le_pow_right (n := 2) (by omega) n7
    have : (2 : Nat) ^ 7 = 128 := rfl
    omega
  obtain ⟨d, h2, e2, hd2, hh2⟩ := L.some' h' ((someL n ps ws).map el) hh (by rw [List.length_map]; exact List.length_pos_iff.mpr sne) (by rw [List.length_map]; exact slen)
  obtain ⟨m, hm, rfl⟩ := List.mem_map.mp hd2
  have ll := (some_mem.mp hl).1
  have lm := (some_mem.mp hm).1
  have c1 := comp_map (C := C) (elt := (.cmp .isin (.v 10) (.v 9))) (tg := .nm 10) (it := (.seq (.ix (.v 7) (.con (.int 0))))) (ifs := .nil) (ρ := [.sh s, .ow none h', .sh (.int t), .sh (ordD n ps), .sh (wsD ws), .sh (.list ((lawC n ps).map el)), .sh (.int (bestP n ps ws)), .sh (.list ((someL n ps ws).map el)), .sh (.tuple ((bestsP n ps ws).map el)), .sh (el l), .un, .un, .un, .un, .un]) (ρ1 := [.sh s, .ow none h', .sh (.int t), .sh (ordD n ps), .sh (wsD ws), .sh (.list ((lawC n ps).map el)), .sh (.int (bestP n ps ws)), .sh (.list ((someL n ps ws).map el)), .sh (.tuple ((bestsP n ps ws).map el)), .sh (el l), .un, .un, .un, .un, .un])
    (as := ((someL n ps ws).head sne).items) (T := PyData.int) (g := fun _ => .bool true) (by
      simp only [q_v, q_con, q_glo, q_no, q_tup, q_lst, q_dnk, q_op2, q_neg, q_cmp, q_cmp2, q_and, q_or, q_not, q_ite, q_bi, q_lrng, q_mu, q_call, q_ix, q_sl, q_rev, q_lnil, q_lcons, q_rnil, q_rcons, q_fnil, q_fcons, q_anil, q_aval, q_aio, q_seq, q_rng1, q_rng2, q_zip, q_enm, q_T, q_sh, q_fr, q_pk, q_fsh, q_ffr, q_fpk, q_cnil, q_ccons, q_aanil, q_aash, q_aaio, q_gnil, q_gcons, q_pnm, q_pix, q_rsh, q_rfr, q_rpk, q_Nnil, q_Ncons, q_Pnil, q_Pcons, q_tsh, q_tfr, q_tpk, q_Sexpr, q_Sset, q_Spar, q_Sunp, q_Siff, q_Sret, q_SretN, q_Swipe, q_SSnil, q_SScons, q_at0, q_atS, q_wnil, q_wcons, q_bnm, q_btp, q_btl, q_snil, q_scons, q_comp, q_dcomp, q_onil, q_osh, q_oio, Option.bind_some, Option.map_some, Option.bind_none, Option.map_none, List.set_cons_zero, List.set_cons_succ, Tg.slots, muK, muF, if_true, Bool.false_eq_true, if_false, ix_0, ix_1, ix_2, ix_3, ix_4, ixt_0, ixt_1, sx_1, sx_2, sx_3, sx_4, eq_int, ne_int, lt_int, gt_int, le_int, ge_int, isin_ev, notin_ev, add_int, sub_int, pow_10_18, tr_bool, io_int, so_list, so_tup, len_list, len_tup, int_int, abs_int, tup_list, tup_tup, lst_list, lst_tup, apSlots, Bool.not_true, Bool.not_false, decide_true, decide_false, reduceIte, reduceCtorEq, Nat.reduceAdd, List.length_map, hd]
      rw [el_items]
      first | done | rfl | simp only [q_v, q_con, q_glo, q_no, q_tup, q_lst, q_dnk, q_op2, q_neg, q_cmp, q_cmp2, q_and, q_or, q_not, q_ite, q_bi, q_lrng, q_mu, q_call, q_ix, q_sl, q_rev, q_lnil, q_lcons, q_rnil, q_rcons, q_fnil, q_fcons, q_anil, q_aval, q_aio, q_seq, q_rng1, q_rng2, q_zip, q_enm, q_T, q_sh, q_fr, q_pk, q_fsh, q_ffr, q_fpk, q_cnil, q_ccons, q_aanil, q_aash, q_aaio, q_gnil, q_gcons, q_pnm, q_pix, q_rsh, q_rfr, q_rpk, q_Nnil, q_Ncons, q_Pnil, q_Pcons, q_tsh, q_tfr, q_tpk, q_Sexpr, q_Sset, q_Spar, q_Sunp, q_Siff, q_Sret, q_SretN, q_Swipe, q_SSnil, q_SScons, q_at0, q_atS, q_wnil, q_wcons, q_bnm, q_btp, q_btl, q_snil, q_scons, q_comp, q_dcomp, q_onil, q_osh, q_oio, Option.bind_some, Option.map_some, Option.bind_none, Option.map_none, List.set_cons_zero, List.set_cons_succ, Tg.slots, muK, muF, if_true, Bool.false_eq_true, if_false, ix_0, ix_1, ix_2, ix_3, ix_4, ixt_0, ixt_1, sx_1, sx_2, sx_3, sx_4, eq_int, ne_int, lt_int, gt_int, le_int, ge_int, isin_ev, notin_ev, add_int, sub_int, pow_10_18, tr_bool, io_int, so_list, so_tup, len_list, len_tup, int_int, abs_int, tup_list, tup_tup, lst_list, lst_tup, apSlots, Bool.not_true, Bool.not_false, decide_true, decide_false, reduceIte, reduceCtorEq, Nat.reduceAdd, List.length_map]) (fun z hz => by simp only [q_v, q_con, q_glo, q_no, q_tup, q_lst, q_dnk, q_op2, q_neg, q_cmp, q_cmp2, q_and, q_or, q_not, q_ite, q_bi, q_lrng, q_mu, q_call, q_ix, q_sl, q_rev, q_lnil, q_lcons, q_rnil, q_rcons, q_fnil, q_fcons, q_anil, q_aval, q_aio, q_seq, q_rng1, q_rng2, q_zip, q_enm, q_T, q_sh, q_fr, q_pk, q_fsh, q_ffr, q_fpk, q_cnil, q_ccons, q_aanil, q_aash, q_aaio, q_gnil, q_gcons, q_pnm, q_pix, q_rsh, q_rfr, q_rpk, q_Nnil, q_Ncons, q_Pnil, q_Pcons, q_tsh, q_tfr, q_tpk, q_Sexpr, q_Sset, q_Spar, q_Sunp, q_Siff, q_Sret, q_SretN, q_Swipe, q_SSnil, q_SScons, q_at0, q_atS, q_wnil, q_wcons, q_bnm, q_btp, q_btl, q_snil, q_scons, q_comp, q_dcomp, q_onil, q_osh, q_oio, Option.bind_some, Option.map_some, Option.bind_none, Option.map_none, List.set_cons_zero, List.set_cons_succ, Tg.slots, muK, muF, if_true, Bool.false_eq_true, if_false, ix_0, ix_1, ix_2, ix_3, ix_4, ixt_0, ixt_1, sx_1, sx_2, sx_3, sx_4, eq_int, ne_int, lt_int, gt_int, le_int, ge_int, isin_ev, notin_ev, add_int, sub_int, pow_10_18, tr_bool, io_int, so_list, so_tup, len_list, len_tup, int_int, abs_int, tup_list, tup_tup, lst_list, lst_tup, apSlots, Bool.not_true, Bool.not_false, decide_true, decide_false, reduceIte, reduceCtorEq, Nat.reduceAdd, List.length_map, in_el, decide_eq_true (head_sub hl z hz)])
  have c2 := comp_map (C := C) (elt := (.cmp .isin (.v 10) (.ix (.v 7) (.neg (.con (.int 1)))))) (tg := .nm 10) (it := .seq (.v 9)) (ifs := .nil) (ρ := [.sh s, .ow none h', .sh (.int t), .sh (ordD n ps), .sh (wsD ws), .sh (.list ((lawC n ps).map el)), .sh (.int (bestP n ps ws)), .sh (.list ((someL n ps ws).map el)), .sh (.tuple ((bestsP n ps ws).map el)), .sh (el l), .un, .un, .un, .un, .un]) (ρ1 := [.sh s, .ow none h', .sh (.int t), .sh (ordD n ps), .sh (wsD ws), .sh (.list ((lawC n ps).map el)), .sh (.int (bestP n ps ws)), .sh (.list ((someL n ps ws).map el)), .sh (.tuple ((bestsP n ps ws).map el)), .sh (el l), .un, .un, .un, .un, .un])
    (as := l.items) (T := PyData.int) (g := fun _ => .bool true) (by
      rw [el_items]
      simp only [q_v, q_con, q_glo, q_no, q_tup, q_lst, q_dnk, q_op2, q_neg, q_cmp, q_cmp2, q_and, q_or, q_not, q_ite, q_bi, q_lrng, q_mu, q_call, q_ix, q_sl, q_rev, q_lnil, q_lcons, q_rnil, q_rcons, q_fnil, q_fcons, q_anil, q_aval, q_aio, q_seq, q_rng1, q_rng2, q_zip, q_enm, q_T, q_sh, q_fr, q_pk, q_fsh, q_ffr, q_fpk, q_cnil, q_ccons, q_aanil, q_aash, q_aaio, q_gnil, q_gcons, q_pnm, q_pix, q_rsh, q_rfr, q_rpk, q_Nnil, q_Ncons, q_Pnil, q_Pcons, q_tsh, q_tfr, q_tpk, q_Sexpr, q_Sset, q_Spar, q_Sunp, q_Siff, q_Sret, q_SretN, q_Swipe, q_SSnil, q_SScons, q_at0, q_atS, q_wnil, q_wcons, q_bnm, q_btp, q_btl, q_snil, q_scons, q_comp, q_dcomp, q_onil, q_osh, q_oio, Option.bind_some, Option.map_some, Option.bind_none, Option.map_none, List.set_cons_zero, List.set_cons_succ, Tg.slots, muK, muF, if_true, Bool.false_eq_true, if_false, ix_0, ix_1, ix_2, ix_3, ix_4, ixt_0, ixt_1, sx_1, sx_2, sx_3, sx_4, eq_int, ne_int, lt_int, gt_int, le_int, ge_int, isin_ev, notin_ev, add_int, sub_int, pow_10_18, tr_bool, io_int, so_list, so_tup, len_list, len_tup, int_int, abs_int, tup_list, tup_tup, lst_list, lst_tup, apSlots, Bool.not_true, Bool.not_false, decide_true, decide_false, reduceIte, reduceCtorEq, Nat.reduceAdd, List.length_map]) (fun z hz => by simp only [q_v, q_con, q_glo, q_no, q_tup, q_lst, q_dnk, q_op2, q_neg, q_cmp, q_cmp2, q_and, q_or, q_not, q_ite, q_bi, q_lrng, q_mu, q_call, q_ix, q_sl, q_rev, q_lnil, q_lcons, q_rnil, q_rcons, q_fnil, q_fcons, q_anil, q_aval, q_aio, q_seq, q_rng1, q_rng2, q_zip, q_enm, q_T, q_sh, q_fr, q_pk, q_fsh, q_ffr, q_fpk, q_cnil, q_ccons, q_aanil, q_aash, q_aaio, q_gnil, q_gcons, q_pnm, q_pix, q_rsh, q_rfr, q_rpk, q_Nnil, q_Ncons, q_Pnil, q_Pcons, q_tsh, q_tfr, q_tpk, q_Sexpr, q_Sset, q_Spar, q_Sunp, q_Siff, q_Sret, q_SretN, q_Swipe, q_SSnil, q_SScons, q_at0, q_atS, q_wnil, q_wcons, q_bnm, q_btp, q_btl, q_snil, q_scons, q_comp, q_dcomp, q_onil, q_osh, q_oio, Option.bind_some, Option.map_some, Option.bind_none, Option.map_none, List.set_cons_zero, List.set_cons_succ, Tg.slots, muK, muF, if_true, Bool.false_eq_true, if_false, ix_0, ix_1, ix_2, ix_3, ix_4, ixt_0, ixt_1, sx_1, sx_2, sx_3, sx_4, eq_int, ne_int, lt_int, gt_int, le_int, ge_int, isin_ev, notin_ev, add_int, sub_int, pow_10_18, tr_bool, io_int, so_list, so_tup, len_list, len_tup, int_int, abs_int, tup_list, tup_tup, lst_list, lst_tup, apSlots, Bool.not_true, Bool.not_false, decide_true, decide_false, reduceIte, reduceCtorEq, Nat.reduceAdd, List.length_map, ls, in_el, decide_eq_true (last_sup hl z hz)])
  have c3 := comp_filter (C := C) (elt := .v 10) (tg := .nm 10) (it := .seq (.v 9)) (ifs := (.cons (.cmp .isin (.v 10) (.v 11)) .nil)) (ρ := [.sh s, .ow none h2, .sh (.int t), .sh (ordD n ps), .sh (wsD ws), .sh (.list ((lawC n ps).map el)), .sh (.int (bestP n ps ws)), .sh (.list ((someL n ps ws).map el)), .sh (.tuple ((bestsP n ps ws).map el)), .sh (el l), .un, .sh (el m), .un, .un, .un]) (ρ1 := [.sh s, .ow none h2, .sh (.int t), .sh (ordD n ps), .sh (wsD ws), .sh (.list ((lawC n ps).map el)), .sh (.int (bestP n ps ws)), .sh (.list ((someL n ps ws).map el)), .sh (.tuple ((bestsP n ps ws).map el)), .sh (el l), .un, .sh (el m), .un, .un, .un])
    (as := l.items) (T := PyData.int) (g := PyData.int) (p := fun z => decide (z ∈ m.items)) (by
      rw [el_items]
      simp only [q_v, q_con, q_glo, q_no, q_tup, q_lst, q_dnk, q_op2, q_neg, q_cmp, q_cmp2, q_and, q_or, q_not, q_ite, q_bi, q_lrng, q_mu, q_call, q_ix, q_sl, q_rev, q_lnil, q_lcons, q_rnil, q_rcons, q_fnil, q_fcons, q_anil, q_aval, q_aio, q_seq, q_rng1, q_rng2, q_zip, q_enm, q_T, q_sh, q_fr, q_pk, q_fsh, q_ffr, q_fpk, q_cnil, q_ccons, q_aanil, q_aash, q_aaio, q_gnil, q_gcons, q_pnm, q_pix, q_rsh, q_rfr, q_rpk, q_Nnil, q_Ncons, q_Pnil, q_Pcons, q_tsh, q_tfr, q_tpk, q_Sexpr, q_Sset, q_Spar, q_Sunp, q_Siff, q_Sret, q_SretN, q_Swipe, q_SSnil, q_SScons, q_at0, q_atS, q_wnil, q_wcons, q_bnm, q_btp, q_btl, q_snil, q_scons, q_comp, q_dcomp, q_onil, q_osh, q_oio, Option.bind_some, Option.map_some, Option.bind_none, Option.map_none, List.set_cons_zero, List.set_cons_succ, Tg.slots, muK, muF, if_true, Bool.false_eq_true, if_false, ix_0, ix_1, ix_2, ix_3, ix_4, ixt_0, ixt_1, sx_1, sx_2, sx_3, sx_4, eq_int, ne_int, lt_int, gt_int, le_int, ge_int, isin_ev, notin_ev, add_int, sub_int, pow_10_18, tr_bool, io_int, so_list, so_tup, len_list, len_tup, int_int, abs_int, tup_list, tup_tup, lst_list, lst_tup, apSlots, Bool.not_true, Bool.not_false, decide_true, decide_false, reduceIte, reduceCtorEq, Nat.reduceAdd, List.length_map]) (fun z hz => by
      by_cases q : z ∈ m.items
      · simp only [q_v, q_con, q_glo, q_no, q_tup, q_lst, q_dnk, q_op2, q_neg, q_cmp, q_cmp2, q_and, q_or, q_not, q_ite, q_bi, q_lrng, q_mu, q_call, q_ix, q_sl, q_rev, q_lnil, q_lcons, q_rnil, q_rcons, q_fnil, q_fcons, q_anil, q_aval, q_aio, q_seq, q_rng1, q_rng2, q_zip, q_enm, q_T, q_sh, q_fr, q_pk, q_fsh, q_ffr, q_fpk, q_cnil, q_ccons, q_aanil, q_aash, q_aaio, q_gnil, q_gcons, q_pnm, q_pix, q_rsh, q_rfr, q_rpk, q_Nnil, q_Ncons, q_Pnil, q_Pcons, q_tsh, q_tfr, q_tpk, q_Sexpr, q_Sset, q_Spar, q_Sunp, q_Siff, q_Sret, q_SretN, q_Swipe, q_SSnil, q_SScons, q_at0, q_atS, q_wnil, q_wcons, q_bnm, q_btp, q_btl, q_snil, q_scons, q_comp, q_dcomp, q_onil, q_osh, q_oio, Option.bind_some, Option.map_some, Option.bind_none, Option.map_none, List.set_cons_zero, List.set_cons_succ, Tg.slots, muK, muF, if_true, Bool.false_eq_true, if_false, ix_0, ix_1, ix_2, ix_3, ix_4, ixt_0, ixt_1, sx_1, sx_2, sx_3, sx_4, eq_int, ne_int, lt_int, gt_int, le_int, ge_int, isin_ev, notin_ev, add_int, sub_int, pow_10_18, tr_bool, io_int, so_list, so_tup, len_list, len_tup, int_int, abs_int, tup_list, tup_tup, lst_list, lst_tup, apSlots, Bool.not_true, Bool.not_false, decide_true, decide_false, reduceIte, reduceCtorEq, Nat.reduceAdd, List.length_map, in_el, decide_eq_true q]
      · simp only [q_v, q_con, q_glo, q_no, q_tup, q_lst, q_dnk, q_op2, q_neg, q_cmp, q_cmp2, q_and, q_or, q_not, q_ite, q_bi, q_lrng, q_mu, q_call, q_ix, q_sl, q_rev, q_lnil, q_lcons, q_rnil, q_rcons, q_fnil, q_fcons, q_anil, q_aval, q_aio, q_seq, q_rng1, q_rng2, q_zip, q_enm, q_T, q_sh, q_fr, q_pk, q_fsh, q_ffr, q_fpk, q_cnil, q_ccons, q_aanil, q_aash, q_aaio, q_gnil, q_gcons, q_pnm, q_pix, q_rsh, q_rfr, q_rpk, q_Nnil, q_Ncons, q_Pnil, q_Pcons, q_tsh, q_tfr, q_tpk, q_Sexpr, q_Sset, q_Spar, q_Sunp, q_Siff, q_Sret, q_SretN, q_Swipe, q_SSnil, q_SScons, q_at0, q_atS, q_wnil, q_wcons, q_bnm, q_btp, q_btl, q_snil, q_scons, q_comp, q_dcomp, q_onil, q_osh, q_oio, Option.bind_some, Option.map_some, Option.bind_none, Option.map_none, List.set_cons_zero, List.set_cons_succ, Tg.slots, muK, muF, if_true, Bool.false_eq_true, if_false, ix_0, ix_1, ix_2, ix_3, ix_4, ixt_0, ixt_1, sx_1, sx_2, sx_3, sx_4, eq_int, ne_int, lt_int, gt_int, le_int, ge_int, isin_ev, notin_ev, add_int, sub_int, pow_10_18, tr_bool, io_int, so_list, so_tup, len_list, len_tup, int_int, abs_int, tup_list, tup_tup, lst_list, lst_tup, apSlots, Bool.not_true, Bool.not_false, decide_true, decide_false, reduceIte, reduceCtorEq, Nat.reduceAdd, List.length_map, in_el, decide_eq_false q])
  have li := lotsM_items ll
  have mi := lotsM_items lm
  have c4 := comp_map (C := C) (elt := (.tup (.cons (.v 10) (.cons (.con (.int 1)) .nil)))) (tg := .nm 10) (it := (.seq (.op2 .add (.v 9) (.v 11)))) (ifs := .nil) (ρ := [.sh s, .ow none h2, .sh (.int t), .sh (ordD n ps), .sh (wsD ws), .sh (.list ((lawC n ps).map el)), .sh (.int (bestP n ps ws)), .sh (.list ((someL n ps ws).map el)), .sh (.tuple ((bestsP n ps ws).map el)), .sh (el l), .un, .sh (el m), .un, .un, .un]) (ρ1 := [.sh s, .ow none h2, .sh (.int t), .sh (ordD n ps), .sh (wsD ws), .sh (.list ((lawC n ps).map el)), .sh (.int (bestP n ps ws)), .sh (.list ((someL n ps ws).map el)), .sh (.tuple ((bestsP n ps ws).map el)), .sh (el l), .un, .sh (el m), .un, .un, .un])
    (as := l.items ++ m.items) (T := PyData.int) (g := fun z => .tuple [.int z, .int 1]) (by
      rw [el_items, el_items]
      simp only [q_v, q_con, q_glo, q_no, q_tup, q_lst, q_dnk, q_op2, q_neg, q_cmp, q_cmp2, q_and, q_or, q_not, q_ite, q_bi, q_lrng, q_mu, q_call, q_ix, q_sl, q_rev, q_lnil, q_lcons, q_rnil, q_rcons, q_fnil, q_fcons, q_anil, q_aval, q_aio, q_seq, q_rng1, q_rng2, q_zip, q_enm, q_T, q_sh, q_fr, q_pk, q_fsh, q_ffr, q_fpk, q_cnil, q_ccons, q_aanil, q_aash, q_aaio, q_gnil, q_gcons, q_pnm, q_pix, q_rsh, q_rfr, q_rpk, q_Nnil, q_Ncons, q_Pnil, q_Pcons, q_tsh, q_tfr, q_tpk, q_Sexpr, q_Sset, q_Spar, q_Sunp, q_Siff, q_Sret, q_SretN, q_Swipe, q_SSnil, q_SScons, q_at0, q_atS, q_wnil, q_wcons, q_bnm, q_btp, q_btl, q_snil, q_scons, q_comp, q_dcomp, q_onil, q_osh, q_oio, Option.bind_some, Option.map_some, Option.bind_none, Option.map_none, List.set_cons_zero, List.set_cons_succ, Tg.slots, muK, muF, if_true, Bool.false_eq_true, if_false, ix_0, ix_1, ix_2, ix_3, ix_4, ixt_0, ixt_1, sx_1, sx_2, sx_3, sx_4, eq_int, ne_int, lt_int, gt_int, le_int, ge_int, isin_ev, notin_ev, add_int, sub_int, pow_10_18, tr_bool, io_int, so_list, so_tup, len_list, len_tup, int_int, abs_int, tup_list, tup_tup, lst_list, lst_tup, apSlots, Bool.not_true, Bool.not_false, decide_true, decide_false, reduceIte, reduceCtorEq, Nat.reduceAdd, List.length_map, cat_tup (show (l.items.map PyData.int).length + (m.items.map PyData.int).length ≤ 16777216 by rw [List.length_map, List.length_map]; omega)]
      rw [List.map_append]) (fun z hz => by simp only [q_v, q_con, q_glo, q_no, q_tup, q_lst, q_dnk, q_op2, q_neg, q_cmp, q_cmp2, q_and, q_or, q_not, q_ite, q_bi, q_lrng, q_mu, q_call, q_ix, q_sl, q_rev, q_lnil, q_lcons, q_rnil, q_rcons, q_fnil, q_fcons, q_anil, q_aval, q_aio, q_seq, q_rng1, q_rng2, q_zip, q_enm, q_T, q_sh, q_fr, q_pk, q_fsh, q_ffr, q_fpk, q_cnil, q_ccons, q_aanil, q_aash, q_aaio, q_gnil, q_gcons, q_pnm, q_pix, q_rsh, q_rfr, q_rpk, q_Nnil, q_Ncons, q_Pnil, q_Pcons, q_tsh, q_tfr, q_tpk, q_Sexpr, q_Sset, q_Spar, q_Sunp, q_Siff, q_Sret, q_SretN, q_Swipe, q_SSnil, q_SScons, q_at0, q_atS, q_wnil, q_wcons, q_bnm, q_btp, q_btl, q_snil, q_scons, q_comp, q_dcomp, q_onil, q_osh, q_oio, Option.bind_some, Option.map_some, Option.bind_none, Option.map_none, List.set_cons_zero, List.set_cons_succ, Tg.slots, muK, muF, if_true, Bool.false_eq_true, if_false, ix_0, ix_1, ix_2, ix_3, ix_4, ixt_0, ixt_1, sx_1, sx_2, sx_3, sx_4, eq_int, ne_int, lt_int, gt_int, le_int, ge_int, isin_ev, notin_ev, add_int, sub_int, pow_10_18, tr_bool, io_int, so_list, so_tup, len_list, len_tup, int_int, abs_int, tup_list, tup_tup, lst_list, lst_tup, apSlots, Bool.not_true, Bool.not_false, decide_true, decide_false, reduceIte, reduceCtorEq, Nat.reduceAdd, List.length_map])
  have t1 := told_in (meet_in hl hm)
  rw [show el (mt l m) = .tuple ((l.items.filter fun z => decide (z ∈ m.items)).map PyData.int) from rfl] at t1
  have t2 := told_in (join_in hl hm)
  rw [show el (jn n l m) = .tuple ((srtT (ddup [] (l.items ++ m.items))).map PyData.int) by rw [union_lot ll lm]; rfl] at t2
  refine ⟨[.sh s, .ow none h2, .sh (.int t), .sh (ordD n ps), .sh (wsD ws), .sh (.list ((lawC n ps).map el)), .sh (.int (bestP n ps ws)), .sh (.list ((someL n ps ws).map el)), .sh (.tuple ((bestsP n ps ws).map el)), .un, .un, .un, .un, .un, .un], ?_, h2, rfl, hh2⟩
  rw [show bindT (.nm 9) (el l) [.sh s, .ow none h', .sh (.int t), .sh (ordD n ps), .sh (wsD ws), .sh (.list ((lawC n ps).map el)), .sh (.int (bestP n ps ws)), .sh (.list ((someL n ps ws).map el)), .sh (.tuple ((bestsP n ps ws).map el)), .un, .un, .un, .un, .un, .un] = some [.sh s, .ow none h', .sh (.int t), .sh (ordD n ps), .sh (wsD ws), .sh (.list ((lawC n ps).map el)), .sh (.int (bestP n ps ws)), .sh (.list ((someL n ps ws).map el)), .sh (.tuple ((bestsP n ps ws).map el)), .sh (el l), .un, .un, .un, .un, .un] from rfl]
  simp only [Option.bind_some]
  refine (nx_cons (ρ' := [.sh s, .ow none h', .sh (.int t), .sh (ordD n ps), .sh (wsD ws), .sh (.list ((lawC n ps).map el)), .sh (.int (bestP n ps ws)), .sh (.list ((someL n ps ws).map el)), .sh (.tuple ((bestsP n ps ws).map el)), .sh (el l), .un, .un, .un, .un, .un]) ?_).trans ?_
  · simp only [q_v, q_con, q_glo, q_no, q_tup, q_lst, q_dnk, q_op2, q_neg, q_cmp, q_cmp2, q_and, q_or, q_not, q_ite, q_bi, q_lrng, q_mu, q_call, q_ix, q_sl, q_rev, q_lnil, q_lcons, q_rnil, q_rcons, q_fnil, q_fcons, q_anil, q_aval, q_aio, q_seq, q_rng1, q_rng2, q_zip, q_enm, q_T, q_sh, q_fr, q_pk, q_fsh, q_ffr, q_fpk, q_cnil, q_ccons, q_aanil, q_aash, q_aaio, q_gnil, q_gcons, q_pnm, q_pix, q_rsh, q_rfr, q_rpk, q_Nnil, q_Ncons, q_Pnil, q_Pcons, q_tsh, q_tfr, q_tpk, q_Sexpr, q_Sset, q_Spar, q_Sunp, q_Siff, q_Sret, q_SretN, q_Swipe, q_SSnil, q_SScons, q_at0, q_atS, q_wnil, q_wcons, q_bnm, q_btp, q_btl, q_snil, q_scons, q_comp, q_dcomp, q_onil, q_osh, q_oio, Option.bind_some, Option.map_some, Option.bind_none, Option.map_none, List.set_cons_zero, List.set_cons_succ, Tg.slots, muK, muF, if_true, Bool.false_eq_true, if_false, ix_0, ix_1, ix_2, ix_3, ix_4, ixt_0, ixt_1, sx_1, sx_2, sx_3, sx_4, eq_int, ne_int, lt_int, gt_int, le_int, ge_int, isin_ev, notin_ev, add_int, sub_int, pow_10_18, tr_bool, io_int, so_list, so_tup, len_list, len_tup, int_int, abs_int, tup_list, tup_tup, lst_list, lst_tup, apSlots, Bool.not_true, Bool.not_false, decide_true, decide_false, reduceIte, reduceCtorEq, Nat.reduceAdd, List.length_map, c1, c2, all_true]
  refine (nx_cons (ρ' := [.sh s, .ow none h2, .sh (.int t), .sh (ordD n ps), .sh (wsD ws), .sh (.list ((lawC n ps).map el)), .sh (.int (bestP n ps ws)), .sh (.list ((someL n ps ws).map el)), .sh (.tuple ((bestsP n ps ws).map el)), .sh (el l), .un, .sh (el m), .un, .un, .un]) ?_).trans ?_
  · simp only [q_v, q_con, q_glo, q_no, q_tup, q_lst, q_dnk, q_op2, q_neg, q_cmp, q_cmp2, q_and, q_or, q_not, q_ite, q_bi, q_lrng, q_mu, q_call, q_ix, q_sl, q_rev, q_lnil, q_lcons, q_rnil, q_rcons, q_fnil, q_fcons, q_anil, q_aval, q_aio, q_seq, q_rng1, q_rng2, q_zip, q_enm, q_T, q_sh, q_fr, q_pk, q_fsh, q_ffr, q_fpk, q_cnil, q_ccons, q_aanil, q_aash, q_aaio, q_gnil, q_gcons, q_pnm, q_pix, q_rsh, q_rfr, q_rpk, q_Nnil, q_Ncons, q_Pnil, q_Pcons, q_tsh, q_tfr, q_tpk, q_Sexpr, q_Sset, q_Spar, q_Sunp, q_Siff, q_Sret, q_SretN, q_Swipe, q_SSnil, q_SScons, q_at0, q_atS, q_wnil, q_wcons, q_bnm, q_btp, q_btl, q_snil, q_scons, q_comp, q_dcomp, q_onil, q_osh, q_oio, Option.bind_some, Option.map_some, Option.bind_none, Option.map_none, List.set_cons_zero, List.set_cons_succ, Tg.slots, muK, muF, if_true, Bool.false_eq_true, if_false, ix_0, ix_1, ix_2, ix_3, ix_4, ixt_0, ixt_1, sx_1, sx_2, sx_3, sx_4, eq_int, ne_int, lt_int, gt_int, le_int, ge_int, isin_ev, notin_ev, add_int, sub_int, pow_10_18, tr_bool, io_int, so_list, so_tup, len_list, len_tup, int_int, abs_int, tup_list, tup_tup, lst_list, lst_tup, apSlots, Bool.not_true, Bool.not_false, decide_true, decide_false, reduceIte, reduceCtorEq, Nat.reduceAdd, List.length_map, e2, List.nodup_cons, List.not_mem_nil, not_false_eq_true, List.nodup_nil, and_self]
  refine (nx_cons (ρ' := [.sh s, .ow none h2, .sh (.int t), .sh (ordD n ps), .sh (wsD ws), .sh (.list ((lawC n ps).map el)), .sh (.int (bestP n ps ws)), .sh (.list ((someL n ps ws).map el)), .sh (.tuple ((bestsP n ps ws).map el)), .sh (el l), .un, .sh (el m), .un, .un, .un]) ?_).trans ?_
  · simp only [q_v, q_con, q_glo, q_no, q_tup, q_lst, q_dnk, q_op2, q_neg, q_cmp, q_cmp2, q_and, q_or, q_not, q_ite, q_bi, q_lrng, q_mu, q_call, q_ix, q_sl, q_rev, q_lnil, q_lcons, q_rnil, q_rcons, q_fnil, q_fcons, q_anil, q_aval, q_aio, q_seq, q_rng1, q_rng2, q_zip, q_enm, q_T, q_sh, q_fr, q_pk, q_fsh, q_ffr, q_fpk, q_cnil, q_ccons, q_aanil, q_aash, q_aaio, q_gnil, q_gcons, q_pnm, q_pix, q_rsh, q_rfr, q_rpk, q_Nnil, q_Ncons, q_Pnil, q_Pcons, q_tsh, q_tfr, q_tpk, q_Sexpr, q_Sset, q_Spar, q_Sunp, q_Siff, q_Sret, q_SretN, q_Swipe, q_SSnil, q_SScons, q_at0, q_atS, q_wnil, q_wcons, q_bnm, q_btp, q_btl, q_snil, q_scons, q_comp, q_dcomp, q_onil, q_osh, q_oio, Option.bind_some, Option.map_some, Option.bind_none, Option.map_none, List.set_cons_zero, List.set_cons_succ, Tg.slots, muK, muF, if_true, Bool.false_eq_true, if_false, ix_0, ix_1, ix_2, ix_3, ix_4, ixt_0, ixt_1, sx_1, sx_2, sx_3, sx_4, eq_int, ne_int, lt_int, gt_int, le_int, ge_int, isin_ev, notin_ev, add_int, sub_int, pow_10_18, tr_bool, io_int, so_list, so_tup, len_list, len_tup, int_int, abs_int, tup_list, tup_tup, lst_list, lst_tup, apSlots, Bool.not_true, Bool.not_false, decide_true, decide_false, reduceIte, reduceCtorEq, Nat.reduceAdd, List.length_map, c3, t1]
  refine (nx_cons (ρ' := [.sh s, .ow none h2, .sh (.int t), .sh (ordD n ps), .sh (wsD ws), .sh (.list ((lawC n ps).map el)), .sh (.int (bestP n ps ws)), .sh (.list ((someL n ps ws).map el)), .sh (.tuple ((bestsP n ps ws).map el)), .sh (el l), .un, .sh (el m), .un, .un, .un]) ?_).trans ?_
  · simp only [q_v, q_con, q_glo, q_no, q_tup, q_lst, q_dnk, q_op2, q_neg, q_cmp, q_cmp2, q_and, q_or, q_not, q_ite, q_bi, q_lrng, q_mu, q_call, q_ix, q_sl, q_rev, q_lnil, q_lcons, q_rnil, q_rcons, q_fnil, q_fcons, q_anil, q_aval, q_aio, q_seq, q_rng1, q_rng2, q_zip, q_enm, q_T, q_sh, q_fr, q_pk, q_fsh, q_ffr, q_fpk, q_cnil, q_ccons, q_aanil, q_aash, q_aaio, q_gnil, q_gcons, q_pnm, q_pix, q_rsh, q_rfr, q_rpk, q_Nnil, q_Ncons, q_Pnil, q_Pcons, q_tsh, q_tfr, q_tpk, q_Sexpr, q_Sset, q_Spar, q_Sunp, q_Siff, q_Sret, q_SretN, q_Swipe, q_SSnil, q_SScons, q_at0, q_atS, q_wnil, q_wcons, q_bnm, q_btp, q_btl, q_snil, q_scons, q_comp, q_dcomp, q_onil, q_osh, q_oio, Option.bind_some, Option.map_some, Option.bind_none, Option.map_none, List.set_cons_zero, List.set_cons_succ, Tg.slots, muK, muF, if_true, Bool.false_eq_true, if_false, ix_0, ix_1, ix_2, ix_3, ix_4, ixt_0, ixt_1, sx_1, sx_2, sx_3, sx_4, eq_int, ne_int, lt_int, gt_int, le_int, ge_int, isin_ev, notin_ev, add_int, sub_int, pow_10_18, tr_bool, io_int, so_list, so_tup, len_list, len_tup, int_int, abs_int, tup_list, tup_tup, lst_list, lst_tup, apSlots, Bool.not_true, Bool.not_false, decide_true, decide_false, reduceIte, reduceCtorEq, Nat.reduceAdd, List.length_map, c4, dic_ints, srt_ints, t2]
  simp only [q_v, q_con, q_glo, q_no, q_tup, q_lst, q_dnk, q_op2, q_neg, q_cmp, q_cmp2, q_and, q_or, q_not, q_ite, q_bi, q_lrng, q_mu, q_call, q_ix, q_sl, q_rev, q_lnil, q_lcons, q_rnil, q_rcons, q_fnil, q_fcons, q_anil, q_aval, q_aio, q_seq, q_rng1, q_rng2, q_zip, q_enm, q_T, q_sh, q_fr, q_pk, q_fsh, q_ffr, q_fpk, q_cnil, q_ccons, q_aanil, q_aash, q_aaio, q_gnil, q_gcons, q_pnm, q_pix, q_rsh, q_rfr, q_rpk, q_Nnil, q_Ncons, q_Pnil, q_Pcons, q_tsh, q_tfr, q_tpk, q_Sexpr, q_Sset, q_Spar, q_Sunp, q_Siff, q_Sret, q_SretN, q_Swipe, q_SSnil, q_SScons, q_at0, q_atS, q_wnil, q_wcons, q_bnm, q_btp, q_btl, q_snil, q_scons, q_comp, q_dcomp, q_onil, q_osh, q_oio, Option.bind_some, Option.map_some, Option.bind_none, Option.map_none, List.set_cons_zero, List.set_cons_succ, Tg.slots, muK, muF, if_true, Bool.false_eq_true, if_false, ix_0, ix_1, ix_2, ix_3, ix_4, ixt_0, ixt_1, sx_1, sx_2, sx_3, sx_4, eq_int, ne_int, lt_int, gt_int, le_int, ge_int, isin_ev, notin_ev, add_int, sub_int, pow_10_18, tr_bool, io_int, so_list, so_tup, len_list, len_tup, int_int, abs_int, tup_list, tup_tup, lst_list, lst_tup, apSlots, Bool.not_true, Bool.not_false, decide_true, decide_false, reduceIte, reduceCtorEq, Nat.reduceAdd, List.length_map]
theorem point84 (L : L84 C i_law_hand i_law_order i_law_weights i_law_draw i_law_some i_law_closed i_law_weigh i_all_best i_law_is i_least_best i_greatest_best i_in_all) {s h : D} {t : Int} {n z : Nat} {ps : List PR} {ws : List Int} (n1 : 1 ≤ n) (n7 : n ≤ 7) (ho : IsOrd n ps) (hw : WsOk n ws) (hz : z < n) :
    ((bindT (.nm 10) (.int (z : Nat)) [.sh s, .ow none h, .sh (.int t), .sh (ordD n ps), .sh (wsD ws), .sh (.list ((lawC n ps).map el)), .sh (.int (bestP n ps ws)), .sh (.list ((someL n ps ws).map el)), .sh (.tuple ((bestsP n ps ws).map el)), .un, .un, .un, .un, .un, .un]).bind fun ρ => evSs C (.cons (.set (.nm 12) (.bi .len (.cons (.comp (.v 14) (.nm 14) (.seq (.v 7)) (.cons (.cmp .isin (.v 10) (.v 14)) .nil)) .nil))) (.cons (.set (.nm 13) (.ite (.cmp .eq (.v 12) (.bi .len (.cons (.v 7) .nil))) (.con (.str "always")) (.ite (.cmp .eq (.v 12) (.con (.int 0))) (.con (.str "never")) (.con (.str "sometimes"))))) (.cons (.iff (.not (.call i_law_is (.val (.call i_in_all (.val (.v 3) (.val (.v 4) (.val (.v 10) .nil)))) (.val (.v 13) .nil)))) (.cons (.ret (.con (.bool false))) .nil) .nil) (.cons (.wipe [10, 12, 13]) .nil)))) ρ) = some (.nx, [.sh s, .ow none h, .sh (.int t), .sh (ordD n ps), .sh (wsD ws), .sh (.list ((lawC n ps).map el)), .sh (.int (bestP n ps ws)), .sh (.list ((someL n ps ws).map el)), .sh (.tuple ((bestsP n ps ws).map el)), .un, .un, .un, .un, .un, .un]) := by
  have ia := L.inall n ps ws z n1 n7 ho hw hz
  rw [say_same] at ia
  have c := comp_filter (C := C) (elt := .v 14) (tg := .nm 14) (it := .seq (.v 7)) (ifs := (.cons (.cmp .isin (.v 10) (.v 14)) .nil)) (ρ := [.sh s, .ow none h, .sh (.int t), .sh (ordD n ps), .sh (wsD ws), .sh (.list ((lawC n ps).map el)), .sh (.int (bestP n ps ws)), .sh (.list ((someL n ps ws).map el)), .sh (.tuple ((bestsP n ps ws).map el)), .un, .sh (.int (z : Nat)), .un, .un, .un, .un]) (ρ1 := [.sh s, .ow none h, .sh (.int t), .sh (ordD n ps), .sh (wsD ws), .sh (.list ((lawC n ps).map el)), .sh (.int (bestP n ps ws)), .sh (.list ((someL n ps ws).map el)), .sh (.tuple ((bestsP n ps ws).map el)), .un, .sh (.int (z : Nat)), .un, .un, .un, .un])
    (as := someL n ps ws) (T := el) (g := el) (p := fun l => decide ((z : Int) ∈ l.items)) (by simp only [q_v, q_con, q_glo, q_no, q_tup, q_lst, q_dnk, q_op2, q_neg, q_cmp, q_cmp2, q_and, q_or, q_not, q_ite, q_bi, q_lrng, q_mu, q_call, q_ix, q_sl, q_rev, q_lnil, q_lcons, q_rnil, q_rcons, q_fnil, q_fcons, q_anil, q_aval, q_aio, q_seq, q_rng1, q_rng2, q_zip, q_enm, q_T, q_sh, q_fr, q_pk, q_fsh, q_ffr, q_fpk, q_cnil, q_ccons, q_aanil, q_aash, q_aaio, q_gnil, q_gcons, q_pnm, q_pix, q_rsh, q_rfr, q_rpk, q_Nnil, q_Ncons, q_Pnil, q_Pcons, q_tsh, q_tfr, q_tpk, q_Sexpr, q_Sset, q_Spar, q_Sunp, q_Siff, q_Sret, q_SretN, q_Swipe, q_SSnil, q_SScons, q_at0, q_atS, q_wnil, q_wcons, q_bnm, q_btp, q_btl, q_snil, q_scons, q_comp, q_dcomp, q_onil, q_osh, q_oio, Option.bind_some, Option.map_some, Option.bind_none, Option.map_none, List.set_cons_zero, List.set_cons_succ, Tg.slots, muK, muF, if_true, Bool.false_eq_true, if_false, ix_0, ix_1, ix_2, ix_3, ix_4, ixt_0, ixt_1, sx_1, sx_2, sx_3, sx_4, eq_int, ne_int, lt_int, gt_int, le_int, ge_int, isin_ev, notin_ev, add_int, sub_int, pow_10_18, tr_bool, io_int, so_list, so_tup, len_list, len_tup, int_int, abs_int, tup_list, tup_tup, lst_list, lst_tup, apSlots, Bool.not_true, Bool.not_false, decide_true, decide_false, reduceIte, reduceCtorEq, Nat.reduceAdd, List.length_map]) (fun l hl => by
      by_cases q : (z : Int) ∈ l.items
      · simp only [q_v, q_con, q_glo, q_no, q_tup, q_lst, q_dnk, q_op2, q_neg, q_cmp, q_cmp2, q_and, q_or, q_not, q_ite, q_bi, q_lrng, q_mu, q_call, q_ix, q_sl, q_rev, q_lnil, q_lcons, q_rnil, q_rcons, q_fnil, q_fcons, q_anil, q_aval, q_aio, q_seq, q_rng1, q_rng2, q_zip, q_enm, q_T, q_sh, q_fr, q_pk, q_fsh, q_ffr, q_fpk, q_cnil, q_ccons, q_aanil, q_aash, q_aaio, q_gnil, q_gcons, q_pnm, q_pix, q_rsh, q_rfr, q_rpk, q_Nnil, q_Ncons, q_Pnil, q_Pcons, q_tsh, q_tfr, q_tpk, q_Sexpr, q_Sset, q_Spar, q_Sunp, q_Siff, q_Sret, q_SretN, q_Swipe, q_SSnil, q_SScons, q_at0, q_atS, q_wnil, q_wcons, q_bnm, q_btp, q_btl, q_snil, q_scons, q_comp, q_dcomp, q_onil, q_osh, q_oio, Option.bind_some, Option.map_some, Option.bind_none, Option.map_none, List.set_cons_zero, List.set_cons_succ, Tg.slots, muK, muF, if_true, Bool.false_eq_true, if_false, ix_0, ix_1, ix_2, ix_3, ix_4, ixt_0, ixt_1, sx_1, sx_2, sx_3, sx_4, eq_int, ne_int, lt_int, gt_int, le_int, ge_int, isin_ev, notin_ev, add_int, sub_int, pow_10_18, tr_bool, io_int, so_list, so_tup, len_list, len_tup, int_int, abs_int, tup_list, tup_tup, lst_list, lst_tup, apSlots, Bool.not_true, Bool.not_false, decide_true, decide_false, reduceIte, reduceCtorEq, Nat.reduceAdd, List.length_map, in_el, decide_eq_true q]
      · simp only [q_v, q_con, q_glo, q_no, q_tup, q_lst, q_dnk, q_op2, q_neg, q_cmp, q_cmp2, q_and, q_or, q_not, q_ite, q_bi, q_lrng, q_mu, q_call, q_ix, q_sl, q_rev, q_lnil, q_lcons, q_rnil, q_rcons, q_fnil, q_fcons, q_anil, q_aval, q_aio, q_seq, q_rng1, q_rng2, q_zip, q_enm, q_T, q_sh, q_fr, q_pk, q_fsh, q_ffr, q_fpk, q_cnil, q_ccons, q_aanil, q_aash, q_aaio, q_gnil, q_gcons, q_pnm, q_pix, q_rsh, q_rfr, q_rpk, q_Nnil, q_Ncons, q_Pnil, q_Pcons, q_tsh, q_tfr, q_tpk, q_Sexpr, q_Sset, q_Spar, q_Sunp, q_Siff, q_Sret, q_SretN, q_Swipe, q_SSnil, q_SScons, q_at0, q_atS, q_wnil, q_wcons, q_bnm, q_btp, q_btl, q_snil, q_scons, q_comp, q_dcomp, q_onil, q_osh, q_oio, Option.bind_some, Option.map_some, Option.bind_none, Option.map_none, List.set_cons_zero, List.set_cons_succ, Tg.slots, muK, muF, if_true, Bool.false_eq_true, if_false, ix_0, ix_1, ix_2, ix_3, ix_4, ixt_0, ixt_1, sx_1, sx_2, sx_3, sx_4, eq_int, ne_int, lt_int, gt_int, le_int, ge_int, isin_ev, notin_ev, add_int, sub_int, pow_10_18, tr_bool, io_int, so_list, so_tup, len_list, len_tup, int_int, abs_int, tup_list, tup_tup, lst_list, lst_tup, apSlots, Bool.not_true, Bool.not_false, decide_true, decide_false, reduceIte, reduceCtorEq, Nat.reduceAdd, List.length_map, in_el, decide_eq_false q])
  rw [show bindT (.nm 10) (.int (z : Nat)) [.sh s, .ow none h, .sh (.int t), .sh (ordD n ps), .sh (wsD ws), .sh (.list ((lawC n ps).map el)), .sh (.int (bestP n ps ws)), .sh (.list ((someL n ps ws).map el)), .sh (.tuple ((bestsP n ps ws).map el)), .un, .un, .un, .un, .un, .un] = some [.sh s, .ow none h, .sh (.int t), .sh (ordD n ps), .sh (wsD ws), .sh (.list ((lawC n ps).map el)), .sh (.int (bestP n ps ws)), .sh (.list ((someL n ps ws).map el)), .sh (.tuple ((bestsP n ps ws).map el)), .un, .sh (.int (z : Nat)), .un, .un, .un, .un] from rfl]
  simp only [Option.bind_some]
  generalize hN : ((someL n ps ws).filter fun l => decide ((z : Int) ∈ l.items)).length = N at ia
  generalize hM : (someL n ps ws).length = M at ia
  by_cases a : N = M
  · rw [if_pos a] at ia
    have a' : ((N : Nat) : Int) = (M : Nat) := by omega
    simp only [q_v, q_con, q_glo, q_no, q_tup, q_lst, q_dnk, q_op2, q_neg, q_cmp, q_cmp2, q_and, q_or, q_not, q_ite, q_bi, q_lrng, q_mu, q_call, q_ix, q_sl, q_rev, q_lnil, q_lcons, q_rnil, q_rcons, q_fnil, q_fcons, q_anil, q_aval, q_aio, q_seq, q_rng1, q_rng2, q_zip, q_enm, q_T, q_sh, q_fr, q_pk, q_fsh, q_ffr, q_fpk, q_cnil, q_ccons, q_aanil, q_aash, q_aaio, q_gnil, q_gcons, q_pnm, q_pix, q_rsh, q_rfr, q_rpk, q_Nnil, q_Ncons, q_Pnil, q_Pcons, q_tsh, q_tfr, q_tpk, q_Sexpr, q_Sset, q_Spar, q_Sunp, q_Siff, q_Sret, q_SretN, q_Swipe, q_SSnil, q_SScons, q_at0, q_atS, q_wnil, q_wcons, q_bnm, q_btp, q_btl, q_snil, q_scons, q_comp, q_dcomp, q_onil, q_osh, q_oio, Option.bind_some, Option.map_some, Option.bind_none, Option.map_none, List.set_cons_zero, List.set_cons_succ, Tg.slots, muK, muF, if_true, Bool.false_eq_true, if_false, ix_0, ix_1, ix_2, ix_3, ix_4, ixt_0, ixt_1, sx_1, sx_2, sx_3, sx_4, eq_int, ne_int, lt_int, gt_int, le_int, ge_int, isin_ev, notin_ev, add_int, sub_int, pow_10_18, tr_bool, io_int, so_list, so_tup, len_list, len_tup, int_int, abs_int, tup_list, tup_tup, lst_list, lst_tup, apSlots, Bool.not_true, Bool.not_false, decide_true, decide_false, reduceIte, reduceCtorEq, Nat.reduceAdd, List.length_map, c, hN, hM, decide_eq_true a', ia, L.like _ (.str _), List.nodup_nil]
  · rw [if_neg a] at ia
    have a' : ¬ ((N : Nat) : Int) = (M : Nat) := by omega
    by_cases b : N = 0
    · rw [if_pos b] at ia
      have b' : ((N : Nat) : Int) = 0 := by omega
      simp only [q_v, q_con, q_glo, q_no, q_tup, q_lst, q_dnk, q_op2, q_neg, q_cmp, q_cmp2, q_and, q_or, q_not, q_ite, q_bi, q_lrng, q_mu, q_call, q_ix, q_sl, q_rev, q_lnil, q_lcons, q_rnil, q_rcons, q_fnil, q_fcons, q_anil, q_aval, q_aio, q_seq, q_rng1, q_rng2, q_zip, q_enm, q_T, q_sh, q_fr, q_pk, q_fsh, q_ffr, q_fpk, q_cnil, q_ccons, q_aanil, q_aash, q_aaio, q_gnil, q_gcons, q_pnm, q_pix, q_rsh, q_rfr, q_rpk, q_Nnil, q_Ncons, q_Pnil, q_Pcons, q_tsh, q_tfr, q_tpk, q_Sexpr, q_Sset, q_Spar, q_Sunp, q_Siff, q_Sret, q_SretN, q_Swipe, q_SSnil, q_SScons, q_at0, q_atS, q_wnil, q_wcons, q_bnm, q_btp, q_btl, q_snil, q_scons, q_comp, q_dcomp, q_onil, q_osh, q_oio, Option.bind_some, Option.map_some, Option.bind_none, Option.map_none, List.set_cons_zero, List.set_cons_succ, Tg.slots, muK, muF, if_true, Bool.false_eq_true, if_false, ix_0, ix_1, ix_2, ix_3, ix_4, ixt_0, ixt_1, sx_1, sx_2, sx_3, sx_4, eq_int, ne_int, lt_int, gt_int, le_int, ge_int, isin_ev, notin_ev, add_int, sub_int, pow_10_18, tr_bool, io_int, so_list, so_tup, len_list, len_tup, int_int, abs_int, tup_list, tup_tup, lst_list, lst_tup, apSlots, Bool.not_true, Bool.not_false, decide_true, decide_false, reduceIte, reduceCtorEq, Nat.reduceAdd, List.length_map, c, hN, hM, decide_eq_false a', decide_eq_true b', ia, L.like _ (.str _), List.nodup_nil]
    · rw [if_neg b] at ia
      have b' : ¬ ((N : Nat) : Int) = 0 := by omega
      simp only [q_v, q_con, q_glo, q_no, q_tup, q_lst, q_dnk, q_op2, q_neg, q_cmp, q_cmp2, q_and, q_or, q_not, q_ite, q_bi, q_lrng, q_mu, q_call, q_ix, q_sl, q_rev, q_lnil, q_lcons, q_rnil, q_rcons, q_fnil, q_fcons, q_anil, q_aval, q_aio, q_seq, q_rng1, q_rng2, q_zip, q_enm, q_T, q_sh, q_fr, q_pk, q_fsh, q_ffr, q_fpk, q_cnil, q_ccons, q_aanil, q_aash, q_aaio, q_gnil, q_gcons, q_pnm, q_pix, q_rsh, q_rfr, q_rpk, q_Nnil, q_Ncons, q_Pnil, q_Pcons, q_tsh, q_tfr, q_tpk, q_Sexpr, q_Sset, q_Spar, q_Sunp, q_Siff, q_Sret, q_SretN, q_Swipe, q_SSnil, q_SScons, q_at0, q_atS, q_wnil, q_wcons, q_bnm, q_btp, q_btl, q_snil, q_scons, q_comp, q_dcomp, q_onil, q_osh, q_oio, Option.bind_some, Option.map_some, Option.bind_none, Option.map_none, List.set_cons_zero, List.set_cons_succ, Tg.slots, muK, muF, if_true, Bool.false_eq_true, if_false, ix_0, ix_1, ix_2, ix_3, ix_4, ixt_0, ixt_1, sx_1, sx_2, sx_3, sx_4, eq_int, ne_int, lt_int, gt_int, le_int, ge_int, isin_ev, notin_ev, add_int, sub_int, pow_10_18, tr_bool, io_int, so_list, so_tup, len_list, len_tup, int_int, abs_int, tup_list, tup_tup, lst_list, lst_tup, apSlots, Bool.not_true, Bool.not_false, decide_true, decide_false, reduceIte, reduceCtorEq, Nat.reduceAdd, List.length_map, c, hN, hM, decide_eq_false a', decide_eq_false b', ia, L.like _ (.str _), List.nodup_nil]
theorem nx_ex {C : Ctx} {s : S} {ss : Ss} {ρ ρ' : Env} {F : D → Env} {P : D → Prop} (h : evS C s ρ = some (.nx, ρ')) (q : ∃ h', evSs C ss ρ' = some (.nx, F h') ∧ P h') : ∃ h', evSs C (.cons s ss) ρ = some (.nx, F h') ∧ P h' := by
  rw [nx_cons h]; exact q
/-- one turn -/
theorem turn84 (L : L84 C i_law_hand i_law_order i_law_weights i_law_draw i_law_some i_law_closed i_law_weigh i_all_best i_law_is i_least_best i_greatest_best i_in_all) {s h : D} {t : Int} (hh : HandOk h) :
    ∃ h', evSs C (.cons (.set (.nm 3) (.call i_law_order (.io 1 (.val (.con (.int 7)) .nil)))) (.cons (.set (.nm 4) (.call i_law_weights (.io 1 (.val (.ix (.v 3) (.con (.int 0))) .nil)))) (.cons (.iff (.cmp .eq (.call i_law_draw (.io 1 (.val (.con (.int 2)) .nil))) (.con (.int 0))) (.cons (.set (.nm 4) (.bi .tup (.cons (.comp (.call i_law_some (.io 1 (.val (.lst (.cons (.con (.int 0)) (.cons (.con (.int 0)) (.cons (.con (.int 1)) (.cons (.neg (.con (.int 1))) .nil))))) .nil))) (.nm 10) (.rng1 (.ix (.v 3) (.con (.int 0)))) .nil) .nil))) .nil) .nil) (.cons (.set (.nm 5) (.call i_law_closed (.val (.v 3) .nil))) (.cons (.set (.nm 6) (.bi .mx (.cons (.comp (.call i_law_weigh (.val (.v 4) (.val (.v 14) .nil))) (.nm 14) (.seq (.v 5)) .nil) .nil))) (.cons (.set (.nm 7) (.comp (.v 14) (.nm 14) (.seq (.v 5)) (.cons (.cmp .eq (.call i_law_weigh (.val (.v 4) (.val (.v 14) .nil))) (.v 6)) .nil))) (.cons (.set (.nm 8) (.call i_all_best (.val (.v 3) (.val (.v 4) .nil)))) (.cons (.iff (.not (.call i_law_is (.val (.v 8) (.val (.bi .tup (.cons (.bi .srt (.cons (.v 7) .nil)) .nil)) .nil)))) (.cons (.ret (.con (.bool false))) .nil) .nil) (.cons (.iff (.or (.not (.call i_law_is (.val (.call i_least_best (.val (.v 3) (.val (.v 4) .nil))) (.val (.ix (.v 7) (.con (.int 0))) .nil)))) (.not (.call i_law_is (.val (.call i_greatest_best (.val (.v 3) (.val (.v 4) .nil))) (.val (.ix (.v 7) (.neg (.con (.int 1)))) .nil))))) (.cons (.ret (.con (.bool false))) .nil) .nil) (.cons (.for (.nm 9) (.seq (.v 7)) (.cons (.iff (.or (.not (.bi .all (.cons (.comp (.cmp .isin (.v 10) (.v 9)) (.nm 10) (.seq (.ix (.v 7) (.con (.int 0)))) .nil) .nil))) (.not (.bi .all (.cons (.comp (.cmp .isin (.v 10) (.ix (.v 7) (.neg (.con (.int 1))))) (.nm 10) (.seq (.v 9)) .nil) .nil)))) (.cons (.ret (.con (.bool false))) .nil) .nil) (.cons (.set (.nm 11) (.call i_law_some (.io 1 (.val (.v 7) .nil)))) (.cons (.iff (.cmp .notin (.bi .tup (.cons (.comp (.v 10) (.nm 10) (.seq (.v 9)) (.cons (.cmp .isin (.v 10) (.v 11)) .nil)) .nil)) (.v 8)) (.cons (.ret (.con (.bool false))) .nil) .nil) (.cons (.iff (.cmp .notin (.bi .tup (.cons (.bi .srt (.cons (.bi .dic (.cons (.comp (.tup (.cons (.v 10) (.cons (.con (.int 1)) .nil))) (.nm 10) (.seq (.op2 .add (.v 9) (.v 11))) .nil) .nil)) .nil)) .nil)) (.v 8)) (.cons (.ret (.con (.bool false))) .nil) .nil) (.cons (.wipe [9, 11]) .nil)))))) (.cons (.for (.nm 10) (.rng1 (.ix (.v 3) (.con (.int 0)))) (.cons (.set (.nm 12) (.bi .len (.cons (.comp (.v 14) (.nm 14) (.seq (.v 7)) (.cons (.cmp .isin (.v 10) (.v 14)) .nil)) .nil))) (.cons (.set (.nm 13) (.ite (.cmp .eq (.v 12) (.bi .len (.cons (.v 7) .nil))) (.con (.str "always")) (.ite (.cmp .eq (.v 12) (.con (.int 0))) (.con (.str "never")) (.con (.str "sometimes"))))) (.cons (.iff (.not (.call i_law_is (.val (.call i_in_all (.val (.v 3) (.val (.v 4) (.val (.v 10) .nil)))) (.val (.v 13) .nil)))) (.cons (.ret (.con (.bool false))) .nil) .nil) (.cons (.wipe [10, 12, 13]) .nil))))) (.cons (.wipe [2, 3, 4, 5, 6, 7, 8, 9, 10, 11, 12, 13]) .nil)))))))))))) [.sh s, .ow none h, .sh (.int t), .un, .un, .un, .un, .un, .un, .un, .un, .un, .un, .un, .un] = some (.nx, [.sh s, .ow none h', .un, .un, .un, .un, .un, .un, .un, .un, .un, .un, .un, .un, .un]) ∧ HandOk h' := by
  obtain ⟨n, ps, h1, e1, n1, n7, ho, hh1⟩ := L.order h hh
  obtain ⟨ws0, h2, e2, hw0, hh2⟩ := L.weights h1 n hh1 (by omega)
  obtain ⟨ws, h3, e3, hw, hh3⟩ := weights84 L (s := s) (t := t) (ps := ps) hh2 n7 hw0
  have ix : ixEv (ordD n ps) (.int 0) = some (.int n) := ixt_0
  have hw' : WsOk n ws := hw
  have win : ∀ l ∈ lawC n ps, ∀ z ∈ l.items, 0 ≤ z ∧ z < ws.length := fun l hl => wt_in hw' ((lawLots_perm n).mem_iff.mp (List.mem_filter.mp hl).1)
  have cne : lawC n ps ≠ [] := fun e => by
    have := lawC_perm n ps
    rw [e] at this
    exact closedP_ne n ps this.nil_eq.symm
  have sne := some_ne n ps ws
  have f7 : C.cal i_law_order [.io h, .sh (.int 7)] = some (false, ordD n ps, [h1]) := e1
  refine nx_ex (ρ' := [.sh s, .ow none h1, .sh (.int t), .sh (ordD n ps), .un, .un, .un, .un, .un, .un, .un, .un, .un, .un, .un]) ?_ ?_
  · simp only [q_v, q_con, q_glo, q_no, q_tup, q_lst, q_dnk, q_op2, q_neg, q_cmp, q_cmp2, q_and, q_or, q_not, q_ite, q_bi, q_lrng, q_mu, q_call, q_ix, q_sl, q_rev, q_lnil, q_lcons, q_rnil, q_rcons, q_fnil, q_fcons, q_anil, q_aval, q_aio, q_seq, q_rng1, q_rng2, q_zip, q_enm, q_T, q_sh, q_fr, q_pk, q_fsh, q_ffr, q_fpk, q_cnil, q_ccons, q_aanil, q_aash, q_aaio, q_gnil, q_gcons, q_pnm, q_pix, q_rsh, q_rfr, q_rpk, q_Nnil, q_Ncons, q_Pnil, q_Pcons, q_tsh, q_tfr, q_tpk, q_Sexpr, q_Sset, q_Spar, q_Sunp, q_Siff, q_Sret, q_SretN, q_Swipe, q_SSnil, q_SScons, q_at0, q_atS, q_wnil, q_wcons, q_bnm, q_btp, q_btl, q_snil, q_scons, q_comp, q_dcomp, q_onil, q_osh, q_oio, Option.bind_some, Option.map_some, Option.bind_none, Option.map_none, List.set_cons_zero, List.set_cons_succ, Tg.slots, muK, muF, if_true, Bool.false_eq_true, if_false, ix_0, ix_1, ix_2, ix_3, ix_4, ixt_0, ixt_1, sx_1, sx_2, sx_3, sx_4, eq_int, ne_int, lt_int, gt_int, le_int, ge_int, isin_ev, notin_ev, add_int, sub_int, pow_10_18, tr_bool, io_int, so_list, so_tup, len_list, len_tup, int_int, abs_int, tup_list, tup_tup, lst_list, lst_tup, apSlots, Bool.not_true, Bool.not_false, decide_true, decide_false, reduceIte, reduceCtorEq, Nat.reduceAdd, List.length_map, f7, List.nodup_cons, List.not_mem_nil, not_false_eq_true, List.nodup_nil, and_self]
  refine nx_ex (ρ' := [.sh s, .ow none h2, .sh (.int t), .sh (ordD n ps), .sh (wsD ws0), .un, .un, .un, .un, .un, .un, .un, .un, .un, .un]) ?_ ?_
  · simp only [q_v, q_con, q_glo, q_no, q_tup, q_lst, q_dnk, q_op2, q_neg, q_cmp, q_cmp2, q_and, q_or, q_not, q_ite, q_bi, q_lrng, q_mu, q_call, q_ix, q_sl, q_rev, q_lnil, q_lcons, q_rnil, q_rcons, q_fnil, q_fcons, q_anil, q_aval, q_aio, q_seq, q_rng1, q_rng2, q_zip, q_enm, q_T, q_sh, q_fr, q_pk, q_fsh, q_ffr, q_fpk, q_cnil, q_ccons, q_aanil, q_aash, q_aaio, q_gnil, q_gcons, q_pnm, q_pix, q_rsh, q_rfr, q_rpk, q_Nnil, q_Ncons, q_Pnil, q_Pcons, q_tsh, q_tfr, q_tpk, q_Sexpr, q_Sset, q_Spar, q_Sunp, q_Siff, q_Sret, q_SretN, q_Swipe, q_SSnil, q_SScons, q_at0, q_atS, q_wnil, q_wcons, q_bnm, q_btp, q_btl, q_snil, q_scons, q_comp, q_dcomp, q_onil, q_osh, q_oio, Option.bind_some, Option.map_some, Option.bind_none, Option.map_none, List.set_cons_zero, List.set_cons_succ, Tg.slots, muK, muF, if_true, Bool.false_eq_true, if_false, ix_0, ix_1, ix_2, ix_3, ix_4, ixt_0, ixt_1, sx_1, sx_2, sx_3, sx_4, eq_int, ne_int, lt_int, gt_int, le_int, ge_int, isin_ev, notin_ev, add_int, sub_int, pow_10_18, tr_bool, io_int, so_list, so_tup, len_list, len_tup, int_int, abs_int, tup_list, tup_tup, lst_list, lst_tup, apSlots, Bool.not_true, Bool.not_false, decide_true, decide_false, reduceIte, reduceCtorEq, Nat.reduceAdd, List.length_map, ix, e2, List.nodup_cons, List.not_mem_nil, not_false_eq_true, List.nodup_nil, and_self]
  refine nx_ex e3 ?_
  refine nx_ex (ρ' := [.sh s, .ow none h3, .sh (.int t), .sh (ordD n ps), .sh (wsD ws), .ow none (.list ((lawC n ps).map el)), .un, .un, .un, .un, .un, .un, .un, .un, .un]) ?_ ?_
  · simp only [q_v, q_con, q_glo, q_no, q_tup, q_lst, q_dnk, q_op2, q_neg, q_cmp, q_cmp2, q_and, q_or, q_not, q_ite, q_bi, q_lrng, q_mu, q_call, q_ix, q_sl, q_rev, q_lnil, q_lcons, q_rnil, q_rcons, q_fnil, q_fcons, q_anil, q_aval, q_aio, q_seq, q_rng1, q_rng2, q_zip, q_enm, q_T, q_sh, q_fr, q_pk, q_fsh, q_ffr, q_fpk, q_cnil, q_ccons, q_aanil, q_aash, q_aaio, q_gnil, q_gcons, q_pnm, q_pix, q_rsh, q_rfr, q_rpk, q_Nnil, q_Ncons, q_Pnil, q_Pcons, q_tsh, q_tfr, q_tpk, q_Sexpr, q_Sset, q_Spar, q_Sunp, q_Siff, q_Sret, q_SretN, q_Swipe, q_SSnil, q_SScons, q_at0, q_atS, q_wnil, q_wcons, q_bnm, q_btp, q_btl, q_snil, q_scons, q_comp, q_dcomp, q_onil, q_osh, q_oio, Option.bind_some, Option.map_some, Option.bind_none, Option.map_none, List.set_cons_zero, List.set_cons_succ, Tg.slots, muK, muF, if_true, Bool.false_eq_true, if_false, ix_0, ix_1, ix_2, ix_3, ix_4, ixt_0, ixt_1, sx_1, sx_2, sx_3, sx_4, eq_int, ne_int, lt_int, gt_int, le_int, ge_int, isin_ev, notin_ev, add_int, sub_int, pow_10_18, tr_bool, io_int, so_list, so_tup, len_list, len_tup, int_int, abs_int, tup_list, tup_tup, lst_list, lst_tup, apSlots, Bool.not_true, Bool.not_false, decide_true, decide_false, reduceIte, reduceCtorEq, Nat.reduceAdd, List.length_map, L.closed n ps (by omega), List.nodup_nil]
    rfl
  refine nx_ex (ρ' := [.sh s, .ow none h3, .sh (.int t), .sh (ordD n ps), .sh (wsD ws), .sh (.list ((lawC n ps).map el)), .sh (.int (bestP n ps ws)), .un, .un, .un, .un, .un, .un, .un, .un]) ?_ ?_
  · have c := comp_map (C := C) (elt := (.call i_law_weigh (.val (.v 4) (.val (.v 14) .nil)))) (tg := .nm 14) (it := .seq (.v 5)) (ifs := .nil) (ρ := [.sh s, .ow none h3, .sh (.int t), .sh (ordD n ps), .sh (wsD ws), .ow none (.list ((lawC n ps).map el)), .un, .un, .un, .un, .un, .un, .un, .un, .un]) (ρ1 := [.sh s, .ow none h3, .sh (.int t), .sh (ordD n ps), .sh (wsD ws), .sh (.list ((lawC n ps).map el)), .un, .un, .un, .un, .un, .un, .un, .un, .un])
      (as := lawC n ps) (T := el) (g := fun l => .int (wt ws l)) (by simp only [q_v, q_con, q_glo, q_no, q_tup, q_lst, q_dnk, q_op2, q_neg, q_cmp, q_cmp2, q_and, q_or, q_not, q_ite, q_bi, q_lrng, q_mu, q_call, q_ix, q_sl, q_rev, q_lnil, q_lcons, q_rnil, q_rcons, q_fnil, q_fcons, q_anil, q_aval, q_aio, q_seq, q_rng1, q_rng2, q_zip, q_enm, q_T, q_sh, q_fr, q_pk, q_fsh, q_ffr, q_fpk, q_cnil, q_ccons, q_aanil, q_aash, q_aaio, q_gnil, q_gcons, q_pnm, q_pix, q_rsh, q_rfr, q_rpk, q_Nnil, q_Ncons, q_Pnil, q_Pcons, q_tsh, q_tfr, q_tpk, q_Sexpr, q_Sset, q_Spar, q_Sunp, q_Siff, q_Sret, q_SretN, q_Swipe, q_SSnil, q_SScons, q_at0, q_atS, q_wnil, q_wcons, q_bnm, q_btp, q_btl, q_snil, q_scons, q_comp, q_dcomp, q_onil, q_osh, q_oio, Option.bind_some, Option.map_some, Option.bind_none, Option.map_none, List.set_cons_zero, List.set_cons_succ, Tg.slots, muK, muF, if_true, Bool.false_eq_true, if_false, ix_0, ix_1, ix_2, ix_3, ix_4, ixt_0, ixt_1, sx_1, sx_2, sx_3, sx_4, eq_int, ne_int, lt_int, gt_int, le_int, ge_int, isin_ev, notin_ev, add_int, sub_int, pow_10_18, tr_bool, io_int, so_list, so_tup, len_list, len_tup, int_int, abs_int, tup_list, tup_tup, lst_list, lst_tup, apSlots, Bool.not_true, Bool.not_false, decide_true, decide_false, reduceIte, reduceCtorEq, Nat.reduceAdd, List.length_map]) (fun l hl => by simp only [q_v, q_con, q_glo, q_no, q_tup, q_lst, q_dnk, q_op2, q_neg, q_cmp, q_cmp2, q_and, q_or, q_not, q_ite, q_bi, q_lrng, q_mu, q_call, q_ix, q_sl, q_rev, q_lnil, q_lcons, q_rnil, q_rcons, q_fnil, q_fcons, q_anil, q_aval, q_aio, q_seq, q_rng1, q_rng2, q_zip, q_enm, q_T, q_sh, q_fr, q_pk, q_fsh, q_ffr, q_fpk, q_cnil, q_ccons, q_aanil, q_aash, q_aaio, q_gnil, q_gcons, q_pnm, q_pix, q_rsh, q_rfr, q_rpk, q_Nnil, q_Ncons, q_Pnil, q_Pcons, q_tsh, q_tfr, q_tpk, q_Sexpr, q_Sset, q_Spar, q_Sunp, q_Siff, q_Sret, q_SretN, q_Swipe, q_SSnil, q_SScons, q_at0, q_atS, q_wnil, q_wcons, q_bnm, q_btp, q_btl, q_snil, q_scons, q_comp, q_dcomp, q_onil, q_osh, q_oio, Option.bind_some, Option.map_some, Option.bind_none, Option.map_none, List.set_cons_zero, List.set_cons_succ, Tg.slots, muK, muF, if_true, Bool.false_eq_true, if_false, ix_0, ix_1, ix_2, ix_3, ix_4, ixt_0, ixt_1, sx_1, sx_2, sx_3, sx_4, eq_int, ne_int, lt_int, gt_int, le_int, ge_int, isin_ev, notin_ev, add_int, sub_int, pow_10_18, tr_bool, io_int, so_list, so_tup, len_list, len_tup, int_int, abs_int, tup_list, tup_tup, lst_list, lst_tup, apSlots, Bool.not_true, Bool.not_false, decide_true, decide_false, reduceIte, reduceCtorEq, Nat.reduceAdd, List.length_map, L.weigh ws l (win l hl), List.nodup_nil])
    have m := mx_ints (xs := (lawC n ps).map (wt ws)) (by simpa using cne)
    rw [List.map_map, best_same] at m
    rw [show (fun l => PyData.int (wt ws l)) = PyData.int ∘ wt ws from rfl] at c
    simp only [q_v, q_con, q_glo, q_no, q_tup, q_lst, q_dnk, q_op2, q_neg, q_cmp, q_cmp2, q_and, q_or, q_not, q_ite, q_bi, q_lrng, q_mu, q_call, q_ix, q_sl, q_rev, q_lnil, q_lcons, q_rnil, q_rcons, q_fnil, q_fcons, q_anil, q_aval, q_aio, q_seq, q_rng1, q_rng2, q_zip, q_enm, q_T, q_sh, q_fr, q_pk, q_fsh, q_ffr, q_fpk, q_cnil, q_ccons, q_aanil, q_aash, q_aaio, q_gnil, q_gcons, q_pnm, q_pix, q_rsh, q_rfr, q_rpk, q_Nnil, q_Ncons, q_Pnil, q_Pcons, q_tsh, q_tfr, q_tpk, q_Sexpr, q_Sset, q_Spar, q_Sunp, q_Siff, q_Sret, q_SretN, q_Swipe, q_SSnil, q_SScons, q_at0, q_atS, q_wnil, q_wcons, q_bnm, q_btp, q_btl, q_snil, q_scons, q_comp, q_dcomp, q_onil, q_osh, q_oio, Option.bind_some, Option.map_some, Option.bind_none, Option.map_none, List.set_cons_zero, List.set_cons_succ, Tg.slots, muK, muF, if_true, Bool.false_eq_true, if_false, ix_0, ix_1, ix_2, ix_3, ix_4, ixt_0, ixt_1, sx_1, sx_2, sx_3, sx_4, eq_int, ne_int, lt_int, gt_int, le_int, ge_int, isin_ev, notin_ev, add_int, sub_int, pow_10_18, tr_bool, io_int, so_list, so_tup, len_list, len_tup, int_int, abs_int, tup_list, tup_tup, lst_list, lst_tup, apSlots, Bool.not_true, Bool.not_false, decide_true, decide_false, reduceIte, reduceCtorEq, Nat.reduceAdd, List.length_map, c, m]
  refine nx_ex (ρ' := [.sh s, .ow none h3, .sh (.int t), .sh (ordD n ps), .sh (wsD ws), .sh (.list ((lawC n ps).map el)), .sh (.int (bestP n ps ws)), .ow none (.list ((someL n ps ws).map el)), .un, .un, .un, .un, .un, .un, .un]) ?_ ?_
  · have c := comp_filter (C := C) (elt := .v 14) (tg := .nm 14) (it := .seq (.v 5)) (ifs := (.cons (.cmp .eq (.call i_law_weigh (.val (.v 4) (.val (.v 14) .nil))) (.v 6)) .nil)) (ρ := [.sh s, .ow none h3, .sh (.int t), .sh (ordD n ps), .sh (wsD ws), .sh (.list ((lawC n ps).map el)), .sh (.int (bestP n ps ws)), .un, .un, .un, .un, .un, .un, .un, .un]) (ρ1 := [.sh s, .ow none h3, .sh (.int t), .sh (ordD n ps), .sh (wsD ws), .sh (.list ((lawC n ps).map el)), .sh (.int (bestP n ps ws)), .un, .un, .un, .un, .un, .un, .un, .un])
      (as := lawC n ps) (T := el) (g := el) (p := fun l => decide (wt ws l = bestP n ps ws)) (by simp only [q_v, q_con, q_glo, q_no, q_tup, q_lst, q_dnk, q_op2, q_neg, q_cmp, q_cmp2, q_and, q_or, q_not, q_ite, q_bi, q_lrng, q_mu, q_call, q_ix, q_sl, q_rev, q_lnil, q_lcons, q_rnil, q_rcons, q_fnil, q_fcons, q_anil, q_aval, q_aio, q_seq, q_rng1, q_rng2, q_zip, q_enm, q_T, q_sh, q_fr, q_pk, q_fsh, q_ffr, q_fpk, q_cnil, q_ccons, q_aanil, q_aash, q_aaio, q_gnil, q_gcons, q_pnm, q_pix, q_rsh, q_rfr, q_rpk, q_Nnil, q_Ncons, q_Pnil, q_Pcons, q_tsh, q_tfr, q_tpk, q_Sexpr, q_Sset, q_Spar, q_Sunp, q_Siff, q_Sret, q_SretN, q_Swipe, q_SSnil, q_SScons, q_at0, q_atS, q_wnil, q_wcons, q_bnm, q_btp, q_btl, q_snil, q_scons, q_comp, q_dcomp, q_onil, q_osh, q_oio, Option.bind_some, Option.map_some, Option.bind_none, Option.map_none, List.set_cons_zero, List.set_cons_succ, Tg.slots, muK, muF, if_true, Bool.false_eq_true, if_false, ix_0, ix_1, ix_2, ix_3, ix_4, ixt_0, ixt_1, sx_1, sx_2, sx_3, sx_4, eq_int, ne_int, lt_int, gt_int, le_int, ge_int, isin_ev, notin_ev, add_int, sub_int, pow_10_18, tr_bool, io_int, so_list, so_tup, len_list, len_tup, int_int, abs_int, tup_list, tup_tup, lst_list, lst_tup, apSlots, Bool.not_true, Bool.not_false, decide_true, decide_false, reduceIte, reduceCtorEq, Nat.reduceAdd, List.length_map]) (fun l hl => by
        by_cases q : wt ws l = bestP n ps ws
        · simp only [q_v, q_con, q_glo, q_no, q_tup, q_lst, q_dnk, q_op2, q_neg, q_cmp, q_cmp2, q_and, q_or, q_not, q_ite, q_bi, q_lrng, q_mu, q_call, q_ix, q_sl, q_rev, q_lnil, q_lcons, q_rnil, q_rcons, q_fnil, q_fcons, q_anil, q_aval, q_aio, q_seq, q_rng1, q_rng2, q_zip, q_enm, q_T, q_sh, q_fr, q_pk, q_fsh, q_ffr, q_fpk, q_cnil, q_ccons, q_aanil, q_aash, q_aaio, q_gnil, q_gcons, q_pnm, q_pix, q_rsh, q_rfr, q_rpk, q_Nnil, q_Ncons, q_Pnil, q_Pcons, q_tsh, q_tfr, q_tpk, q_Sexpr, q_Sset, q_Spar, q_Sunp, q_Siff, q_Sret, q_SretN, q_Swipe, q_SSnil, q_SScons, q_at0, q_atS, q_wnil, q_wcons, q_bnm, q_btp, q_btl, q_snil, q_scons, q_comp, q_dcomp, q_onil, q_osh, q_oio, Option.bind_some, Option.map_some, Option.bind_none, Option.map_none, List.set_cons_zero, List.set_cons_succ, Tg.slots, muK, muF, if_true, Bool.false_eq_true, if_false, ix_0, ix_1, ix_2, ix_3, ix_4, ixt_0, ixt_1, sx_1, sx_2, sx_3, sx_4, eq_int, ne_int, lt_int, gt_int, le_int, ge_int, isin_ev, notin_ev, add_int, sub_int, pow_10_18, tr_bool, io_int, so_list, so_tup, len_list, len_tup, int_int, abs_int, tup_list, tup_tup, lst_list, lst_tup, apSlots, Bool.not_true, Bool.not_false, decide_true, decide_false, reduceIte, reduceCtorEq, Nat.reduceAdd, List.length_map, L.weigh ws l (win l hl), List.nodup_nil, decide_eq_true q]
        · simp only [q_v, q_con, q_glo, q_no, q_tup, q_lst, q_dnk, q_op2, q_neg, q_cmp, q_cmp2, q_and, q_or, q_not, q_ite, q_bi, q_lrng, q_mu, q_call, q_ix, q_sl, q_rev, q_lnil, q_lcons, q_rnil, q_rcons, q_fnil, q_fcons, q_anil, q_aval, q_aio, q_seq, q_rng1, q_rng2, q_zip, q_enm, q_T, q_sh, q_fr, q_pk, q_fsh, q_ffr, q_fpk, q_cnil, q_ccons, q_aanil, q_aash, q_aaio, q_gnil, q_gcons, q_pnm, q_pix, q_rsh, q_rfr, q_rpk, q_Nnil, q_Ncons, q_Pnil, q_Pcons, q_tsh, q_tfr, q_tpk, q_Sexpr, q_Sset, q_Spar, q_Sunp, q_Siff, q_Sret, q_SretN, q_Swipe, q_SSnil, q_SScons, q_at0, q_atS, q_wnil, q_wcons, q_bnm, q_btp, q_btl, q_snil, q_scons, q_comp, q_dcomp, q_onil, q_osh, q_oio, Option.bind_some, Option.map_some, Option.bind_none, Option.map_none, List.set_cons_zero, List.set_cons_succ, Tg.slots, muK, muF, if_true, Bool.false_eq_true, if_false, ix_0, ix_1, ix_2, ix_3, ix_4, ixt_0, ixt_1, sx_1, sx_2, sx_3, sx_4, eq_int, ne_int, lt_int, gt_int, le_int, ge_int, isin_ev, notin_ev, add_int, sub_int, pow_10_18, tr_bool, io_int, so_list, so_tup, len_list, len_tup, int_int, abs_int, tup_list, tup_tup, lst_list, lst_tup, apSlots, Bool.not_true, Bool.not_false, decide_true, decide_false, reduceIte, reduceCtorEq, Nat.reduceAdd, List.length_map, L.weigh ws l (win l hl), List.nodup_nil, decide_eq_false q])
    simp only [q_v, q_con, q_glo, q_no, q_tup, q_lst, q_dnk, q_op2, q_neg, q_cmp, q_cmp2, q_and, q_or, q_not, q_ite, q_bi, q_lrng, q_mu, q_call, q_ix, q_sl, q_rev, q_lnil, q_lcons, q_rnil, q_rcons, q_fnil, q_fcons, q_anil, q_aval, q_aio, q_seq, q_rng1, q_rng2, q_zip, q_enm, q_T, q_sh, q_fr, q_pk, q_fsh, q_ffr, q_fpk, q_cnil, q_ccons, q_aanil, q_aash, q_aaio, q_gnil, q_gcons, q_pnm, q_pix, q_rsh, q_rfr, q_rpk, q_Nnil, q_Ncons, q_Pnil, q_Pcons, q_tsh, q_tfr, q_tpk, q_Sexpr, q_Sset, q_Spar, q_Sunp, q_Siff, q_Sret, q_SretN, q_Swipe, q_SSnil, q_SScons, q_at0, q_atS, q_wnil, q_wcons, q_bnm, q_btp, q_btl, q_snil, q_scons, q_comp, q_dcomp, q_onil, q_osh, q_oio, Option.bind_some, Option.map_some, Option.bind_none, Option.map_none, List.set_cons_zero, List.set_cons_succ, Tg.slots, muK, muF, if_true, Bool.false_eq_true, if_false, ix_0, ix_1, ix_2, ix_3, ix_4, ixt_0, ixt_1, sx_1, sx_2, sx_3, sx_4, eq_int, ne_int, lt_int, gt_int, le_int, ge_int, isin_ev, notin_ev, add_int, sub_int, pow_10_18, tr_bool, io_int, so_list, so_tup, len_list, len_tup, int_int, abs_int, tup_list, tup_tup, lst_list, lst_tup, apSlots, Bool.not_true, Bool.not_false, decide_true, decide_false, reduceIte, reduceCtorEq, Nat.reduceAdd, List.length_map, c]
    rfl
  refine nx_ex (ρ' := [.sh s, .ow none h3, .sh (.int t), .sh (ordD n ps), .sh (wsD ws), .sh (.list ((lawC n ps).map el)), .sh (.int (bestP n ps ws)), .ow none (.list ((someL n ps ws).map el)), .sh (.tuple ((bestsP n ps ws).map el)), .un, .un, .un, .un, .un, .un]) ?_ ?_
  · simp only [q_v, q_con, q_glo, q_no, q_tup, q_lst, q_dnk, q_op2, q_neg, q_cmp, q_cmp2, q_and, q_or, q_not, q_ite, q_bi, q_lrng, q_mu, q_call, q_ix, q_sl, q_rev, q_lnil, q_lcons, q_rnil, q_rcons, q_fnil, q_fcons, q_anil, q_aval, q_aio, q_seq, q_rng1, q_rng2, q_zip, q_enm, q_T, q_sh, q_fr, q_pk, q_fsh, q_ffr, q_fpk, q_cnil, q_ccons, q_aanil, q_aash, q_aaio, q_gnil, q_gcons, q_pnm, q_pix, q_rsh, q_rfr, q_rpk, q_Nnil, q_Ncons, q_Pnil, q_Pcons, q_tsh, q_tfr, q_tpk, q_Sexpr, q_Sset, q_Spar, q_Sunp, q_Siff, q_Sret, q_SretN, q_Swipe, q_SSnil, q_SScons, q_at0, q_atS, q_wnil, q_wcons, q_bnm, q_btp, q_btl, q_snil, q_scons, q_comp, q_dcomp, q_onil, q_osh, q_oio, Option.bind_some, Option.map_some, Option.bind_none, Option.map_none, List.set_cons_zero, List.set_cons_succ, Tg.slots, muK, muF, if_true, Bool.false_eq_true, if_false, ix_0, ix_1, ix_2, ix_3, ix_4, ixt_0, ixt_1, sx_1, sx_2, sx_3, sx_4, eq_int, ne_int, lt_int, gt_int, le_int, ge_int, isin_ev, notin_ev, add_int, sub_int, pow_10_18, tr_bool, io_int, so_list, so_tup, len_list, len_tup, int_int, abs_int, tup_list, tup_tup, lst_list, lst_tup, apSlots, Bool.not_true, Bool.not_false, decide_true, decide_false, reduceIte, reduceCtorEq, Nat.reduceAdd, List.length_map, L.allb n ps ws n1 n7 ho hw', List.nodup_nil]
  have so : biEv .srt [.list ((someL n ps ws).map el)] = some (.fr (.list ((bestsP n ps ws).map el))) := by
    simp only [biEv]
    rw [srt_enc (α := LT) (by decide), some_srt]
    rfl
  refine nx_ex (ρ' := [.sh s, .ow none h3, .sh (.int t), .sh (ordD n ps), .sh (wsD ws), .sh (.list ((lawC n ps).map el)), .sh (.int (bestP n ps ws)), .ow none (.list ((someL n ps ws).map el)), .sh (.tuple ((bestsP n ps ws).map el)), .un, .un, .un, .un, .un, .un]) ?_ ?_
  · simp only [q_v, q_con, q_glo, q_no, q_tup, q_lst, q_dnk, q_op2, q_neg, q_cmp, q_cmp2, q_and, q_or, q_not, q_ite, q_bi, q_lrng, q_mu, q_call, q_ix, q_sl, q_rev, q_lnil, q_lcons, q_rnil, q_rcons, q_fnil, q_fcons, q_anil, q_aval, q_aio, q_seq, q_rng1, q_rng2, q_zip, q_enm, q_T, q_sh, q_fr, q_pk, q_fsh, q_ffr, q_fpk, q_cnil, q_ccons, q_aanil, q_aash, q_aaio, q_gnil, q_gcons, q_pnm, q_pix, q_rsh, q_rfr, q_rpk, q_Nnil, q_Ncons, q_Pnil, q_Pcons, q_tsh, q_tfr, q_tpk, q_Sexpr, q_Sset, q_Spar, q_Sunp, q_Siff, q_Sret, q_SretN, q_Swipe, q_SSnil, q_SScons, q_at0, q_atS, q_wnil, q_wcons, q_bnm, q_btp, q_btl, q_snil, q_scons, q_comp, q_dcomp, q_onil, q_osh, q_oio, Option.bind_some, Option.map_some, Option.bind_none, Option.map_none, List.set_cons_zero, List.set_cons_succ, Tg.slots, muK, muF, if_true, Bool.false_eq_true, if_false, ix_0, ix_1, ix_2, ix_3, ix_4, ixt_0, ixt_1, sx_1, sx_2, sx_3, sx_4, eq_int, ne_int, lt_int, gt_int, le_int, ge_int, isin_ev, notin_ev, add_int, sub_int, pow_10_18, tr_bool, io_int, so_list, so_tup, len_list, len_tup, int_int, abs_int, tup_list, tup_tup, lst_list, lst_tup, apSlots, Bool.not_true, Bool.not_false, decide_true, decide_false, reduceIte, reduceCtorEq, Nat.reduceAdd, List.length_map, so, L.like _ (.lots (bestsP n ps ws)), List.nodup_nil]
  have mne : (someL n ps ws).map el ≠ [] := by simpa using sne
  have hd : ixEv (.list ((someL n ps ws).map el)) (.int 0) = some (el ((someL n ps ws).head sne)) := by rw [ix_head mne, List.head_map]
  have ls : ixEv (.list ((someL n ps ws).map el)) (.int (-1)) = some (el ((someL n ps ws).getLast sne)) := by rw [ix_last mne, List.getLast_map]
  have le := L.least n ps ws n1 n7 ho hw'
  rw [head_least] at le
  have gr := L.great n ps ws n1 n7 ho hw'
  rw [last_greatest] at gr
  refine nx_ex (ρ' := [.sh s, .ow none h3, .sh (.int t), .sh (ordD n ps), .sh (wsD ws), .sh (.list ((lawC n ps).map el)), .sh (.int (bestP n ps ws)), .ow none (.list ((someL n ps ws).map el)), .sh (.tuple ((bestsP n ps ws).map el)), .un, .un, .un, .un, .un, .un]) ?_ ?_
  · simp only [q_v, q_con, q_glo, q_no, q_tup, q_lst, q_dnk, q_op2, q_neg, q_cmp, q_cmp2, q_and, q_or, q_not, q_ite, q_bi, q_lrng, q_mu, q_call, q_ix, q_sl, q_rev, q_lnil, q_lcons, q_rnil, q_rcons, q_fnil, q_fcons, q_anil, q_aval, q_aio, q_seq, q_rng1, q_rng2, q_zip, q_enm, q_T, q_sh, q_fr, q_pk, q_fsh, q_ffr, q_fpk, q_cnil, q_ccons, q_aanil, q_aash, q_aaio, q_gnil, q_gcons, q_pnm, q_pix, q_rsh, q_rfr, q_rpk, q_Nnil, q_Ncons, q_Pnil, q_Pcons, q_tsh, q_tfr, q_tpk, q_Sexpr, q_Sset, q_Spar, q_Sunp, q_Siff, q_Sret, q_SretN, q_Swipe, q_SSnil, q_SScons, q_at0, q_atS, q_wnil, q_wcons, q_bnm, q_btp, q_btl, q_snil, q_scons, q_comp, q_dcomp, q_onil, q_osh, q_oio, Option.bind_some, Option.map_some, Option.bind_none, Option.map_none, List.set_cons_zero, List.set_cons_succ, Tg.slots, muK, muF, if_true, Bool.false_eq_true, if_false, ix_0, ix_1, ix_2, ix_3, ix_4, ixt_0, ixt_1, sx_1, sx_2, sx_3, sx_4, eq_int, ne_int, lt_int, gt_int, le_int, ge_int, isin_ev, notin_ev, add_int, sub_int, pow_10_18, tr_bool, io_int, so_list, so_tup, len_list, len_tup, int_int, abs_int, tup_list, tup_tup, lst_list, lst_tup, apSlots, Bool.not_true, Bool.not_false, decide_true, decide_false, reduceIte, reduceCtorEq, Nat.reduceAdd, List.length_map, le, gr, hd, ls, L.like _ (.lot ((someL n ps ws).head sne)), L.like _ (.lot ((someL n ps ws).getLast sne)), List.nodup_nil]
  have hit : evI C (.seq (.v 7)) [.sh s, .ow none h3, .sh (.int t), .sh (ordD n ps), .sh (wsD ws), .sh (.list ((lawC n ps).map el)), .sh (.int (bestP n ps ws)), .ow none (.list ((someL n ps ws).map el)), .sh (.tuple ((bestsP n ps ws).map el)), .un, .un, .un, .un, .un, .un] = some ((someL n ps ws).map el, [.sh s, .ow none h3, .sh (.int t), .sh (ordD n ps), .sh (wsD ws), .sh (.list ((lawC n ps).map el)), .sh (.int (bestP n ps ws)), .sh (.list ((someL n ps ws).map el)), .sh (.tuple ((bestsP n ps ws).map el)), .un, .un, .un, .un, .un, .un]) := by simp only [q_v, q_con, q_glo, q_no, q_tup, q_lst, q_dnk, q_op2, q_neg, q_cmp, q_cmp2, q_and, q_or, q_not, q_ite, q_bi, q_lrng, q_mu, q_call, q_ix, q_sl, q_rev, q_lnil, q_lcons, q_rnil, q_rcons, q_fnil, q_fcons, q_anil, q_aval, q_aio, q_seq, q_rng1, q_rng2, q_zip, q_enm, q_T, q_sh, q_fr, q_pk, q_fsh, q_ffr, q_fpk, q_cnil, q_ccons, q_aanil, q_aash, q_aaio, q_gnil, q_gcons, q_pnm, q_pix, q_rsh, q_rfr, q_rpk, q_Nnil, q_Ncons, q_Pnil, q_Pcons, q_tsh, q_tfr, q_tpk, q_Sexpr, q_Sset, q_Spar, q_Sunp, q_Siff, q_Sret, q_SretN, q_Swipe, q_SSnil, q_SScons, q_at0, q_atS, q_wnil, q_wcons, q_bnm, q_btp, q_btl, q_snil, q_scons, q_comp, q_dcomp, q_onil, q_osh, q_oio, Option.bind_some, Option.map_some, Option.bind_none, Option.map_none, List.set_cons_zero, List.set_cons_succ, Tg.slots, muK, muF, if_true, Bool.false_eq_true, if_false, ix_0, ix_1, ix_2, ix_3, ix_4, ixt_0, ixt_1, sx_1, sx_2, sx_3, sx_4, eq_int, ne_int, lt_int, gt_int, le_int, ge_int, isin_ev, notin_ev, add_int, sub_int, pow_10_18, tr_bool, io_int, so_list, so_tup, len_list, len_tup, int_int, abs_int, tup_list, tup_tup, lst_list, lst_tup, apSlots, Bool.not_true, Bool.not_false, decide_true, decide_false, reduceIte, reduceCtorEq, Nat.reduceAdd, List.length_map]
  have w1 := for_go (C := C) (tg := .nm 9) (body := (.cons (.iff (.or (.not (.bi .all (.cons (.comp (.cmp .isin (.v 10) (.v 9)) (.nm 10) (.seq (.ix (.v 7) (.con (.int 0)))) .nil) .nil))) (.not (.bi .all (.cons (.comp (.cmp .isin (.v 10) (.ix (.v 7) (.neg (.con (.int 1))))) (.nm 10) (.seq (.v 9)) .nil) .nil)))) (.cons (.ret (.con (.bool false))) .nil) .nil) (.cons (.set (.nm 11) (.call i_law_some (.io 1 (.val (.v 7) .nil)))) (.cons (.iff (.cmp .notin (.bi .tup (.cons (.comp (.v 10) (.nm 10) (.seq (.v 9)) (.cons (.cmp .isin (.v 10) (.v 11)) .nil)) .nil)) (.v 8)) (.cons (.ret (.con (.bool false))) .nil) .nil) (.cons (.iff (.cmp .notin (.bi .tup (.cons (.bi .srt (.cons (.bi .dic (.cons (.comp (.tup (.cons (.v 10) (.cons (.con (.int 1)) .nil))) (.nm 10) (.seq (.op2 .add (.v 9) (.v 11))) .nil) .nil)) .nil)) .nil)) (.v 8)) (.cons (.ret (.con (.bool false))) .nil) .nil) (.cons (.wipe [9, 11]) .nil)))))) hit (fun _ ρ => ∃ h', ρ = [.sh s, .ow none h', .sh (.int t), .sh (ordD n ps), .sh (wsD ws), .sh (.list ((lawC n ps).map el)), .sh (.int (bestP n ps ws)), .sh (.list ((someL n ps ws).map el)), .sh (.tuple ((bestsP n ps ws).map el)), .un, .un, .un, .un, .un, .un] ∧ HandOk h') ⟨h3, rfl, hh3⟩ (fun i l ρ2 hi hI => one84 L n1 n7 ho hw' (List.mem_of_getElem? hi) hI)
  obtain ⟨ρ4, e4, h4, rfl, hh4⟩ := w1
  refine nx_ex e4 ?_
  have hit2 : evI C (.rng1 (.ix (.v 3) (.con (.int 0)))) [.sh s, .ow none h4, .sh (.int t), .sh (ordD n ps), .sh (wsD ws), .sh (.list ((lawC n ps).map el)), .sh (.int (bestP n ps ws)), .sh (.list ((someL n ps ws).map el)), .sh (.tuple ((bestsP n ps ws).map el)), .un, .un, .un, .un, .un, .un] = some ((List.range n).map fun k => (PyData.int (k : Nat)), [.sh s, .ow none h4, .sh (.int t), .sh (ordD n ps), .sh (wsD ws), .sh (.list ((lawC n ps).map el)), .sh (.int (bestP n ps ws)), .sh (.list ((someL n ps ws).map el)), .sh (.tuple ((bestsP n ps ws).map el)), .un, .un, .un, .un, .un, .un]) := by
    simp only [q_v, q_con, q_glo, q_no, q_tup, q_lst, q_dnk, q_op2, q_neg, q_cmp, q_cmp2, q_and, q_or, q_not, q_ite, q_bi, q_lrng, q_mu, q_call, q_ix, q_sl, q_rev, q_lnil, q_lcons, q_rnil, q_rcons, q_fnil, q_fcons, q_anil, q_aval, q_aio, q_seq, q_rng1, q_rng2, q_zip, q_enm, q_T, q_sh, q_fr, q_pk, q_fsh, q_ffr, q_fpk, q_cnil, q_ccons, q_aanil, q_aash, q_aaio, q_gnil, q_gcons, q_pnm, q_pix, q_rsh, q_rfr, q_rpk, q_Nnil, q_Ncons, q_Pnil, q_Pcons, q_tsh, q_tfr, q_tpk, q_Sexpr, q_Sset, q_Spar, q_Sunp, q_Siff, q_Sret, q_SretN, q_Swipe, q_SSnil, q_SScons, q_at0, q_atS, q_wnil, q_wcons, q_bnm, q_btp, q_btl, q_snil, q_scons, q_comp, q_dcomp, q_onil, q_osh, q_oio, Option.bind_some, Option.map_some, Option.bind_none, Option.map_none, List.set_cons_zero, List.set_cons_succ, Tg.slots, muK, muF, if_true, Bool.false_eq_true, if_false, ix_0, ix_1, ix_2, ix_3, ix_4, ixt_0, ixt_1, sx_1, sx_2, sx_3, sx_4, eq_int, ne_int, lt_int, gt_int, le_int, ge_int, isin_ev, notin_ev, add_int, sub_int, pow_10_18, tr_bool, io_int, so_list, so_tup, len_list, len_tup, int_int, abs_int, tup_list, tup_tup, lst_list, lst_tup, apSlots, Bool.not_true, Bool.not_false, decide_true, decide_false, reduceIte, reduceCtorEq, Nat.reduceAdd, List.length_map, ix]
    rw [if_pos (by omega), rng_int]
  have w2 := for_go (C := C) (tg := .nm 10) (body := (.cons (.set (.nm 12) (.bi .len (.cons (.comp (.v 14) (.nm 14) (.seq (.v 7)) (.cons (.cmp .isin (.v 10) (.v 14)) .nil)) .nil))) (.cons (.set (.nm 13) (.ite (.cmp .eq (.v 12) (.bi .len (.cons (.v 7) .nil))) (.con (.str "always")) (.ite (.cmp .eq (.v 12) (.con (.int 0))) (.con (.str "never")) (.con (.str "sometimes"))))) (.cons (.iff (.not (.call i_law_is (.val (.call i_in_all (.val (.v 3) (.val (.v 4) (.val (.v 10) .nil)))) (.val (.v 13) .nil)))) (.cons (.ret (.con (.bool false))) .nil) .nil) (.cons (.wipe [10, 12, 13]) .nil))))) hit2 (fun _ ρ => ρ = [.sh s, .ow none h4, .sh (.int t), .sh (ordD n ps), .sh (wsD ws), .sh (.list ((lawC n ps).map el)), .sh (.int (bestP n ps ws)), .sh (.list ((someL n ps ws).map el)), .sh (.tuple ((bestsP n ps ws).map el)), .un, .un, .un, .un, .un, .un]) rfl (fun i z ρ2 hi hI => by
    subst hI
    have hz : z = i := by
      have := (List.getElem?_eq_some_iff.mp hi).2
      simpa using this.symm
    have hzn : i < n := by
      have := (List.getElem?_eq_some_iff.mp hi).1
      simpa using this
    subst hz
    exact ⟨_, point84 L n1 n7 ho hw' hzn, rfl⟩)
  obtain ⟨ρ5, e5, rfl⟩ := w2
  refine nx_ex e5 ?_
  exact ⟨h4, by simp only [q_v, q_con, q_glo, q_no, q_tup, q_lst, q_dnk, q_op2, q_neg, q_cmp, q_cmp2, q_and, q_or, q_not, q_ite, q_bi, q_lrng, q_mu, q_call, q_ix, q_sl, q_rev, q_lnil, q_lcons, q_rnil, q_rcons, q_fnil, q_fcons, q_anil, q_aval, q_aio, q_seq, q_rng1, q_rng2, q_zip, q_enm, q_T, q_sh, q_fr, q_pk, q_fsh, q_ffr, q_fpk, q_cnil, q_ccons, q_aanil, q_aash, q_aaio, q_gnil, q_gcons, q_pnm, q_pix, q_rsh, q_rfr, q_rpk, q_Nnil, q_Ncons, q_Pnil, q_Pcons, q_tsh, q_tfr, q_tpk, q_Sexpr, q_Sset, q_Spar, q_Sunp, q_Siff, q_Sret, q_SretN, q_Swipe, q_SSnil, q_SScons, q_at0, q_atS, q_wnil, q_wcons, q_bnm, q_btp, q_btl, q_snil, q_scons, q_comp, q_dcomp, q_onil, q_osh, q_oio, Option.bind_some, Option.map_some, Option.bind_none, Option.map_none, List.set_cons_zero, List.set_cons_succ, Tg.slots, muK, muF, if_true, Bool.false_eq_true, if_false, ix_0, ix_1, ix_2, ix_3, ix_4, ixt_0, ixt_1, sx_1, sx_2, sx_3, sx_4, eq_int, ne_int, lt_int, gt_int, le_int, ge_int, isin_ev, notin_ev, add_int, sub_int, pow_10_18, tr_bool, io_int, so_list, so_tup, len_list, len_tup, int_int, abs_int, tup_list, tup_tup, lst_list, lst_tup, apSlots, Bool.not_true, Bool.not_false, decide_true, decide_false, reduceIte, reduceCtorEq, Nat.reduceAdd, List.length_map], hh4⟩
theorem law84_ok (L : L84 C i_law_hand i_law_order i_law_weights i_law_draw i_law_some i_law_closed i_law_weigh i_all_best i_law_is i_least_best i_greatest_best i_in_all) {ns : List Int} (hl : ns.length ≤ 63) :
    callB C 15 (g_law84 i_law_hand i_law_order i_law_weights i_law_draw i_law_some i_law_closed i_law_weigh i_all_best i_law_is i_least_best i_greatest_best i_in_all) [.sh (scrOf ns)] = some (false, .bool true, []) := by
  obtain ⟨h, e, hh⟩ := L.hand ns hl
  unfold callB g_law84
  rw [show startE 15 [Ar.sh (scrOf ns)] = [.sh (scrOf ns), .un, .un, .un, .un, .un, .un, .un, .un, .un, .un, .un, .un, .un, .un] from rfl]
  have hr : evI C (.rng1 (.con (.int 6))) [.sh (scrOf ns), .ow none h, .un, .un, .un, .un, .un, .un, .un, .un, .un, .un, .un, .un, .un] = some ((List.range 6).map fun k => (PyData.int (k : Nat)), [.sh (scrOf ns), .ow none h, .un, .un, .un, .un, .un, .un, .un, .un, .un, .un, .un, .un, .un]) := by
    simp only [q_v, q_con, q_glo, q_no, q_tup, q_lst, q_dnk, q_op2, q_neg, q_cmp, q_cmp2, q_and, q_or, q_not, q_ite, q_bi, q_lrng, q_mu, q_call, q_ix, q_sl, q_rev, q_lnil, q_lcons, q_rnil, q_rcons, q_fnil, q_fcons, q_anil, q_aval, q_aio, q_seq, q_rng1, q_rng2, q_zip, q_enm, q_T, q_sh, q_fr, q_pk, q_fsh, q_ffr, q_fpk, q_cnil, q_ccons, q_aanil, q_aash, q_aaio, q_gnil, q_gcons, q_pnm, q_pix, q_rsh, q_rfr, q_rpk, q_Nnil, q_Ncons, q_Pnil, q_Pcons, q_tsh, q_tfr, q_tpk, q_Sexpr, q_Sset, q_Spar, q_Sunp, q_Siff, q_Sret, q_SretN, q_Swipe, q_SSnil, q_SScons, q_at0, q_atS, q_wnil, q_wcons, q_bnm, q_btp, q_btl, q_snil, q_scons, q_comp, q_dcomp, q_onil, q_osh, q_oio, Option.bind_some, Option.map_some, Option.bind_none, Option.map_none, List.set_cons_zero, List.set_cons_succ, Tg.slots, muK, muF, if_true, Bool.false_eq_true, if_false, ix_0, ix_1, ix_2, ix_3, ix_4, ixt_0, ixt_1, sx_1, sx_2, sx_3, sx_4, eq_int, ne_int, lt_int, gt_int, le_int, ge_int, isin_ev, notin_ev, add_int, sub_int, pow_10_18, tr_bool, io_int, so_list, so_tup, len_list, len_tup, int_int, abs_int, tup_list, tup_tup, lst_list, lst_tup, apSlots, Bool.not_true, Bool.not_false, decide_true, decide_false, reduceIte, reduceCtorEq, Nat.reduceAdd, List.length_map]
    rw [if_pos (by decide)]
    rfl
  have w := for_go (C := C) (tg := .nm 2) (body := (.cons (.set (.nm 3) (.call i_law_order (.io 1 (.val (.con (.int 7)) .nil)))) (.cons (.set (.nm 4) (.call i_law_weights (.io 1 (.val (.ix (.v 3) (.con (.int 0))) .nil)))) (.cons (.iff (.cmp .eq (.call i_law_draw (.io 1 (.val (.con (.int 2)) .nil))) (.con (.int 0))) (.cons (.set (.nm 4) (.bi .tup (.cons (.comp (.call i_law_some (.io 1 (.val (.lst (.cons (.con (.int 0)) (.cons (.con (.int 0)) (.cons (.con (.int 1)) (.cons (.neg (.con (.int 1))) .nil))))) .nil))) (.nm 10) (.rng1 (.ix (.v 3) (.con (.int 0)))) .nil) .nil))) .nil) .nil) (.cons (.set (.nm 5) (.call i_law_closed (.val (.v 3) .nil))) (.cons (.set (.nm 6) (.bi .mx (.cons (.comp (.call i_law_weigh (.val (.v 4) (.val (.v 14) .nil))) (.nm 14) (.seq (.v 5)) .nil) .nil))) (.cons (.set (.nm 7) (.comp (.v 14) (.nm 14) (.seq (.v 5)) (.cons (.cmp .eq (.call i_law_weigh (.val (.v 4) (.val (.v 14) .nil))) (.v 6)) .nil))) (.cons (.set (.nm 8) (.call i_all_best (.val (.v 3) (.val (.v 4) .nil)))) (.cons (.iff (.not (.call i_law_is (.val (.v 8) (.val (.bi .tup (.cons (.bi .srt (.cons (.v 7) .nil)) .nil)) .nil)))) (.cons (.ret (.con (.bool false))) .nil) .nil) (.cons (.iff (.or (.not (.call i_law_is (.val (.call i_least_best (.val (.v 3) (.val (.v 4) .nil))) (.val (.ix (.v 7) (.con (.int 0))) .nil)))) (.not (.call i_law_is (.val (.call i_greatest_best (.val (.v 3) (.val (.v 4) .nil))) (.val (.ix (.v 7) (.neg (.con (.int 1)))) .nil))))) (.cons (.ret (.con (.bool false))) .nil) .nil) (.cons (.for (.nm 9) (.seq (.v 7)) (.cons (.iff (.or (.not (.bi .all (.cons (.comp (.cmp .isin (.v 10) (.v 9)) (.nm 10) (.seq (.ix (.v 7) (.con (.int 0)))) .nil) .nil))) (.not (.bi .all (.cons (.comp (.cmp .isin (.v 10) (.ix (.v 7) (.neg (.con (.int 1))))) (.nm 10) (.seq (.v 9)) .nil) .nil)))) (.cons (.ret (.con (.bool false))) .nil) .nil) (.cons (.set (.nm 11) (.call i_law_some (.io 1 (.val (.v 7) .nil)))) (.cons (.iff (.cmp .notin (.bi .tup (.cons (.comp (.v 10) (.nm 10) (.seq (.v 9)) (.cons (.cmp .isin (.v 10) (.v 11)) .nil)) .nil)) (.v 8)) (.cons (.ret (.con (.bool false))) .nil) .nil) (.cons (.iff (.cmp .notin (.bi .tup (.cons (.bi .srt (.cons (.bi .dic (.cons (.comp (.tup (.cons (.v 10) (.cons (.con (.int 1)) .nil))) (.nm 10) (.seq (.op2 .add (.v 9) (.v 11))) .nil) .nil)) .nil)) .nil)) (.v 8)) (.cons (.ret (.con (.bool false))) .nil) .nil) (.cons (.wipe [9, 11]) .nil)))))) (.cons (.for (.nm 10) (.rng1 (.ix (.v 3) (.con (.int 0)))) (.cons (.set (.nm 12) (.bi .len (.cons (.comp (.v 14) (.nm 14) (.seq (.v 7)) (.cons (.cmp .isin (.v 10) (.v 14)) .nil)) .nil))) (.cons (.set (.nm 13) (.ite (.cmp .eq (.v 12) (.bi .len (.cons (.v 7) .nil))) (.con (.str "always")) (.ite (.cmp .eq (.v 12) (.con (.int 0))) (.con (.str "never")) (.con (.str "sometimes"))))) (.cons (.iff (.not (.call i_law_is (.val (.call i_in_all (.val (.v 3) (.val (.v 4) (.val (.v 10) .nil)))) (.val (.v 13) .nil)))) (.cons (.ret (.con (.bool false))) .nil) .nil) (.cons (.wipe [10, 12, 13]) .nil))))) (.cons (.wipe [2, 3, 4, 5, 6, 7, 8, 9, 10, 11, 12, 13]) .nil))))))))))))) hr (fun _ ρ => ∃ h', ρ = [.sh (scrOf ns), .ow none h', .un, .un, .un, .un, .un, .un, .un, .un, .un, .un, .un, .un, .un] ∧ HandOk h') ⟨h, rfl, hh⟩ (fun i t ρ2 _ hI => by
    obtain ⟨h', rfl, hh'⟩ := hI
    obtain ⟨h2, e2, hh2⟩ := turn84 L (s := scrOf ns) (t := (t : Nat)) hh'
    exact ⟨_, e2, h2, rfl, hh2⟩)
  obtain ⟨ρ2, e2, h', rfl, _⟩ := w
  simp only [q_v, q_con, q_glo, q_no, q_tup, q_lst, q_dnk, q_op2, q_neg, q_cmp, q_cmp2, q_and, q_or, q_not, q_ite, q_bi, q_lrng, q_mu, q_call, q_ix, q_sl, q_rev, q_lnil, q_lcons, q_rnil, q_rcons, q_fnil, q_fcons, q_anil, q_aval, q_aio, q_seq, q_rng1, q_rng2, q_zip, q_enm, q_T, q_sh, q_fr, q_pk, q_fsh, q_ffr, q_fpk, q_cnil, q_ccons, q_aanil, q_aash, q_aaio, q_gnil, q_gcons, q_pnm, q_pix, q_rsh, q_rfr, q_rpk, q_Nnil, q_Ncons, q_Pnil, q_Pcons, q_tsh, q_tfr, q_tpk, q_Sexpr, q_Sset, q_Spar, q_Sunp, q_Siff, q_Sret, q_SretN, q_Swipe, q_SSnil, q_SScons, q_at0, q_atS, q_wnil, q_wcons, q_bnm, q_btp, q_btl, q_snil, q_scons, q_comp, q_dcomp, q_onil, q_osh, q_oio, Option.bind_some, Option.map_some, Option.bind_none, Option.map_none, List.set_cons_zero, List.set_cons_succ, Tg.slots, muK, muF, if_true, Bool.false_eq_true, if_false, ix_0, ix_1, ix_2, ix_3, ix_4, ixt_0, ixt_1, sx_1, sx_2, sx_3, sx_4, eq_int, ne_int, lt_int, gt_int, le_int, ge_int, isin_ev, notin_ev, add_int, sub_int, pow_10_18, tr_bool, io_int, so_list, so_tup, len_list, len_tup, int_int, abs_int, tup_list, tup_tup, lst_list, lst_tup, apSlots, Bool.not_true, Bool.not_false, decide_true, decide_false, reduceIte, reduceCtorEq, Nat.reduceAdd, List.length_map, e, List.nodup_nil, e2]
end
end PI

set_option Elab.async false
set_option linter.all false
set_option maxRecDepth 100000
set_option maxHeartbeats 4000000
namespace K84
set_option autoImplicit false
open PySem PySem.Spec PySem.W L2 PI
open PyProof.Rows hiding St
def top (i : Nat) : Stmt := PySem.Challenge.pw_aheadhouse_k84_whole_all_best_closed_lot.main.body.getD i (.Pass ⟨0, 0, 0, 0⟩)
def GC : List (Str × D) := [("MOST_POINTS", .int 8), ("MOST_ARROWS", .int 56), ("MOST_WEIGHT", .int 1000)]

/-- is_integer(thing); slots 0:thing; lent [] -/
def b_is_integer : Ss := (.cons (.ret (.and (.bi (.isi [.int]) (.cons (.v 0) .nil)) (.not (.bi (.isi [.bool]) (.cons (.v 0) .nil))))) .nil)
def d_is_integer : Df := ⟨"is_integer", ["thing"], ["thing"], top 1, b_is_integer⟩
/-- is_within(thing, low, high); slots 0:thing 1:low 2:high; lent [] -/
def b_is_within : Ss := (.cons (.ret (.and (.call 0 (.val (.v 0) .nil)) (.cmp2 .le .le (.v 1) (.v 0) (.v 2)))) .nil)
def d_is_within : Df := ⟨"is_within", ["thing", "low", "high"], ["thing", "low", "high"], top 2, b_is_within⟩
/-- is_sized(thing, low, high); slots 0:thing 1:low 2:high; lent [] -/
def b_is_sized : Ss := (.cons (.ret (.and (.bi (.isi [.tuple]) (.cons (.v 0) .nil)) (.cmp2 .le .le (.v 1) (.bi .len (.cons (.v 0) .nil)) (.v 2)))) .nil)
def d_is_sized : Df := ⟨"is_sized", ["thing", "low", "high"], ["thing", "low", "high"], top 3, b_is_sized⟩
/-- are_pairs(n, thing); slots 0:n 1:thing 2:pair 3:point; lent [] -/
def b_are_pairs : Ss := (.cons (.iff (.or (.not (.bi (.isi [.tuple]) (.cons (.v 1) .nil))) (.not (.bi .all (.cons (.comp (.call 2 (.val (.v 2) (.val (.con (.int 2)) (.val (.con (.int 2)) .nil)))) (.nm 2) (.seq (.v 1)) .nil) .nil)))) (.cons (.ret (.con (.bool false))) .nil) .nil) (.cons (.ret (.bi .all (.cons (.comp (.bi .all (.cons (.comp (.call 1 (.val (.v 3) (.val (.con (.int 0)) (.val (.op2 .sub (.v 0) (.con (.int 1))) .nil)))) (.nm 3) (.seq (.v 2)) .nil) .nil)) (.nm 2) (.seq (.v 1)) .nil) .nil))) .nil))
def d_are_pairs : Df := ⟨"are_pairs", ["n", "thing", "pair", "point"], ["n", "thing"], top 12, b_are_pairs⟩
/-- is_order(thing); slots 0:thing 1:told 2:n 3:pairs 4:a 5:b 6:pair 7:one 8:other 9:d 10:c; lent [] -/
def b_is_order : Ss := (.cons (.iff (.or (.not (.call 2 (.val (.v 0) (.val (.con (.int 2)) (.val (.con (.int 2)) .nil))))) (.or (.not (.call 1 (.val (.ix (.v 0) (.con (.int 0))) (.val (.con (.int 1)) (.val (.glo "MOST_POINTS" (.int 8)) .nil))))) (.not (.call 3 (.val (.ix (.v 0) (.con (.int 0))) (.val (.ix (.v 0) (.con (.int 1))) .nil)))))) (.cons (.ret (.con (.bool false))) .nil) .nil) (.cons (.unp [2, 3] (.v 0)) (.cons (.iff (.or (.cmp .gt (.bi .len (.cons (.v 3) .nil)) (.glo "MOST_ARROWS" (.int 56))) (.not (.bi .all (.cons (.comp (.cmp .lt (.v 7) (.v 8)) (.tp [7, 8]) (.zip (.v 3) (.sl (.v 3) (.con (.int 1)) .no)) .nil) .nil)))) (.cons (.ret (.con (.bool false))) .nil) .nil) (.cons (.set (.nm 1) (.dcomp (.v 6) (.con (.bool true)) (.nm 6) (.seq (.v 3)) .nil)) (.cons (.for (.tp [4, 5]) (.seq (.v 3)) (.cons (.iff (.or (.cmp .eq (.v 4) (.v 5)) (.or (.cmp .isin (.tup (.cons (.v 5) (.cons (.v 4) .nil))) (.v 1)) (.bi .any (.cons (.comp (.cmp .notin (.tup (.cons (.v 4) (.cons (.v 10) .nil))) (.v 1)) (.tp [9, 10]) (.seq (.v 3)) (.cons (.cmp .eq (.v 9) (.v 5)) .nil)) .nil)))) (.cons (.ret (.con (.bool false))) .nil) .nil) (.cons (.wipe [4, 5]) .nil))) (.cons (.ret (.con (.bool true))) .nil))))))
def d_is_order : Df := ⟨"is_order", ["thing", "told", "n", "pairs", "a", "b", "pair", "one", "other", "d", "c"], ["thing"], top 13, b_is_order⟩
/-- check_order(thing); slots 0:thing; lent [] -/
def b_check_order : Ss := (.cons (.iff (.not (.call 4 (.val (.v 0) .nil))) (.cons .bad .nil) .nil) .nil)
def d_check_order : Df := ⟨"check_order", ["thing"], ["thing"], top 14, b_check_order⟩
/-- all_lots(n); slots 0:n 1:found 2:mask 3:point; lent [] -/
def b_all_lots : Ss := (.cons (.set (.nm 1) (.lst .nil)) (.cons (.for (.nm 2) (.rng1 (.op2 .shl (.con (.int 1)) (.v 0))) (.cons (.expr (.mu .append 1 (.cons (.bi .tup (.cons (.comp (.v 3) (.nm 3) (.rng1 (.v 0)) (.cons (.cmp .eq (.op2 .band (.op2 .shr (.v 2) (.v 3)) (.con (.int 1))) (.con (.int 1))) .nil)) .nil)) .nil))) (.cons (.wipe [2]) .nil))) (.cons (.ret (.bi .srt (.cons (.v 1) .nil))) .nil)))
def d_all_lots : Df := ⟨"all_lots", ["n", "found", "mask", "point"], ["n"], top 16, b_all_lots⟩
/-- is_closed(order, lot); slots 0:order 1:lot 2:one 3:other; lent [] -/
def b_is_closed : Ss := (.cons (.ret (.not (.bi .any (.cons (.comp (.and (.cmp .isin (.v 3) (.v 1)) (.cmp .notin (.v 2) (.v 1))) (.tp [2, 3]) (.seq (.ix (.v 0) (.con (.int 1)))) .nil) .nil)))) .nil)
def d_is_closed : Df := ⟨"is_closed", ["order", "lot", "one", "other"], ["order", "lot"], top 17, b_is_closed⟩
/-- closed_lots(order); slots 0:order 1:lot; lent [] -/
def b_closed_lots : Ss := (.cons (.ret (.comp (.v 1) (.nm 1) (.seq (.call 6 (.val (.ix (.v 0) (.con (.int 0))) .nil))) (.cons (.call 7 (.val (.v 0) (.val (.v 1) .nil))) .nil))) .nil)
def d_closed_lots : Df := ⟨"closed_lots", ["order", "lot"], ["order"], top 18, b_closed_lots⟩
/-- are_weights_of(order, thing); slots 0:order 1:thing 2:one; lent [] -/
def b_are_weights_of : Ss := (.cons (.ret (.and (.call 2 (.val (.v 1) (.val (.ix (.v 0) (.con (.int 0))) (.val (.ix (.v 0) (.con (.int 0))) .nil)))) (.bi .all (.cons (.comp (.call 1 (.val (.v 2) (.val (.op2 .sub (.con (.int 0)) (.glo "MOST_WEIGHT" (.int 1000))) (.val (.glo "MOST_WEIGHT" (.int 1000)) .nil)))) (.nm 2) (.seq (.v 1)) .nil) .nil)))) .nil)
def d_are_weights_of : Df := ⟨"are_weights_of", ["order", "thing", "one"], ["order", "thing"], top 21, b_are_weights_of⟩
/-- check_weights(order, weights); slots 0:order 1:weights; lent [] -/
def b_check_weights : Ss := (.cons (.expr (.call 5 (.val (.v 0) .nil))) (.cons (.iff (.not (.call 9 (.val (.v 0) (.val (.v 1) .nil)))) (.cons .bad .nil) .nil) .nil))
def d_check_weights : Df := ⟨"check_weights", ["order", "weights"], ["order", "weights"], top 22, b_check_weights⟩
/-- weight_of(weights, lot); slots 0:weights 1:lot 2:point; lent [] -/
def b_weight_of : Ss := (.cons (.ret (.bi .sum (.cons (.comp (.ix (.v 0) (.v 2)) (.nm 2) (.seq (.v 1)) .nil) .nil))) .nil)
def d_weight_of : Df := ⟨"weight_of", ["weights", "lot", "point"], ["weights", "lot"], top 23, b_weight_of⟩
/-- best_of(order, weights); slots 0:order 1:weights 2:lot; lent [] -/
def b_best_of : Ss := (.cons (.ret (.bi .mx (.cons (.comp (.call 11 (.val (.v 1) (.val (.v 2) .nil))) (.nm 2) (.seq (.call 8 (.val (.v 0) .nil))) .nil) .nil))) .nil)
def d_best_of : Df := ⟨"best_of", ["order", "weights", "lot"], ["order", "weights"], top 24, b_best_of⟩
/-- bests_of(order, weights); slots 0:order 1:weights 2:best 3:lot; lent [] -/
def b_bests_of : Ss := (.cons (.set (.nm 2) (.call 12 (.val (.v 0) (.val (.v 1) .nil)))) (.cons (.ret (.comp (.v 3) (.nm 3) (.seq (.call 8 (.val (.v 0) .nil))) (.cons (.cmp .eq (.call 11 (.val (.v 1) (.val (.v 3) .nil))) (.v 2)) .nil))) .nil))
def d_bests_of : Df := ⟨"bests_of", ["order", "weights", "best", "lot"], ["order", "weights"], top 25, b_bests_of⟩
/-- least_best(order, weights); slots 0:order 1:weights 2:lot; lent [] -/
def b_least_best : Ss := (.cons (.expr (.call 10 (.val (.v 0) (.val (.v 1) .nil)))) (.cons (.ret (.ix (.bi .mn (.cons (.comp (.tup (.cons (.bi .len (.cons (.v 2) .nil)) (.cons (.v 2) .nil))) (.nm 2) (.seq (.call 13 (.val (.v 0) (.val (.v 1) .nil)))) .nil) .nil)) (.con (.int 1)))) .nil))
def d_least_best : Df := ⟨"least_best", ["order", "weights", "lot"], ["order", "weights"], top 26, b_least_best⟩
/-- greatest_in(lots); slots 0:lots 1:lot; lent [] -/
def b_greatest_in : Ss := (.cons (.ret (.ix (.bi .mx (.cons (.comp (.tup (.cons (.bi .len (.cons (.v 1) .nil)) (.cons (.v 1) .nil))) (.nm 1) (.seq (.v 0)) .nil) .nil)) (.con (.int 1)))) .nil)
def d_greatest_in : Df := ⟨"greatest_in", ["lots", "lot"], ["lots"], top 27, b_greatest_in⟩
/-- greatest_best(order, weights); slots 0:order 1:weights; lent [] -/
def b_greatest_best : Ss := (.cons (.expr (.call 10 (.val (.v 0) (.val (.v 1) .nil)))) (.cons (.ret (.call 15 (.val (.call 13 (.val (.v 0) (.val (.v 1) .nil))) .nil))) .nil))
def d_greatest_best : Df := ⟨"greatest_best", ["order", "weights"], ["order", "weights"], top 28, b_greatest_best⟩
/-- all_best(order, weights); slots 0:order 1:weights; lent [] -/
def b_all_best : Ss := (.cons (.expr (.call 10 (.val (.v 0) (.val (.v 1) .nil)))) (.cons (.ret (.bi .tup (.cons (.call 13 (.val (.v 0) (.val (.v 1) .nil))) .nil))) .nil))
def d_all_best : Df := ⟨"all_best", ["order", "weights"], ["order", "weights"], top 29, b_all_best⟩
/-- in_all(order, weights, point); slots 0:order 1:weights 2:point 3:flags 4:lot; lent [] -/
def b_in_all : Ss := (.cons (.expr (.call 10 (.val (.v 0) (.val (.v 1) .nil)))) (.cons (.iff (.not (.call 1 (.val (.v 2) (.val (.con (.int 0)) (.val (.op2 .sub (.ix (.v 0) (.con (.int 0))) (.con (.int 1))) .nil))))) (.cons .bad .nil) .nil) (.cons (.set (.nm 3) (.comp (.cmp .isin (.v 2) (.v 4)) (.nm 4) (.seq (.call 13 (.val (.v 0) (.val (.v 1) .nil)))) .nil)) (.cons (.ret (.ite (.bi .all (.cons (.v 3) .nil)) (.con (.str "always")) (.ite (.bi .any (.cons (.v 3) .nil)) (.con (.str "sometimes")) (.con (.str "never"))))) .nil))))
def d_in_all : Df := ⟨"in_all", ["order", "weights", "point", "flags", "lot"], ["order", "weights", "point"], top 30, b_in_all⟩
/-- _law_hand(script); slots 0:script 1:cells 2:cell; lent [] -/
def b__law_hand : Ss := (.cons (.set (.nm 1) (.comp (.bi .abs (.cons (.bi .int (.cons (.v 2) .nil)) .nil)) (.nm 2) (.seq (.sl (.v 0) .no (.con (.int 63)))) .nil)) (.cons (.ret (.lst (.cons (.v 1) (.cons (.con (.int 0)) (.cons (.con (.int 0)) (.cons (.op2 .add (.con (.int 97)) (.op2 .mul (.con (.int 5)) (.bi .len (.cons (.v 1) .nil)))) (.cons (.con (.int 0)) .nil))))))) .nil))
def d__law_hand : Df := ⟨"_law_hand", ["script", "cells", "cell"], ["script"], top 32, b__law_hand⟩
/-- _law_draw(hand, many); slots 0:hand 1:many 2:number 3:cell 4:figure; lent [0] -/
def b__law_draw : Ss := (.cons (.iff (.and (.cmp .eq (.ix (.v 0) (.con (.int 2))) (.con (.int 0))) (.cmp .lt (.ix (.v 0) (.con (.int 1))) (.bi .len (.cons (.ix (.v 0) (.con (.int 0))) .nil)))) (.cons (.set (.nm 3) (.ix (.ix (.v 0) (.con (.int 0))) (.ix (.v 0) (.con (.int 1))))) (.cons (.set (.ix 0 (.con (.int 1))) (.op2 .add (.ix (.v 0) (.con (.int 1))) (.con (.int 1)))) (.cons (.set (.ix 0 (.con (.int 3))) (.op2 .mod (.bi .int (.cons (.op2 .add (.op2 .add (.op2 .mul (.ix (.v 0) (.con (.int 3))) (.con (.int 48271))) (.v 3)) (.con (.int 31))) .nil)) (.con (.int 2147483647)))) (.cons (.iff (.cmp .ge (.v 3) (.op2 .pow (.con (.int 10)) (.con (.int 18)))) (.cons (.set (.ix 0 (.con (.int 2))) (.v 3)) .nil) .nil) (.cons (.wipe [3]) .nil))))) .nil) (.cons (.iff (.cmp .gt (.ix (.v 0) (.con (.int 2))) (.con (.int 0))) (.cons (.set (.nm 4) (.op2 .mod (.bi .int (.cons (.ix (.v 0) (.con (.int 2))) .nil)) (.v 1))) (.cons (.set (.ix 0 (.con (.int 2))) (.op2 .fdiv (.ix (.v 0) (.con (.int 2))) (.v 1))) (.cons (.ret (.v 4)) .nil))) .nil) (.cons (.set (.ix 0 (.con (.int 4))) (.op2 .add (.ix (.v 0) (.con (.int 4))) (.con (.int 1)))) (.cons (.set (.nm 2) (.op2 .mod (.bi .int (.cons (.op2 .mul (.bi .int (.cons (.op2 .add (.ix (.v 0) (.con (.int 3))) (.op2 .mul (.con (.int 6151)) (.ix (.v 0) (.con (.int 4))))) .nil)) (.con (.int 40692))) .nil)) (.con (.int 2147483399)))) (.cons (.set (.nm 2) (.op2 .mod (.bi .int (.cons (.op2 .mul (.v 2) (.op2 .add (.op2 .fdiv (.v 2) (.con (.int 1223))) (.con (.int 52027)))) .nil)) (.con (.int 2147483629)))) (.cons (.set (.nm 2) (.op2 .mod (.bi .int (.cons (.op2 .mul (.v 2) (.op2 .add (.op2 .fdiv (.v 2) (.con (.int 2671))) (.con (.int 69621)))) .nil)) (.con (.int 2147483647)))) (.cons (.ret (.op2 .mod (.bi .int (.cons (.op2 .fdiv (.v 2) (.con (.int 32))) .nil)) (.v 1))) .nil)))))))
def d__law_draw : Df := ⟨"_law_draw", ["hand", "many", "number", "cell", "figure"], ["hand", "many"], top 33, b__law_draw⟩
/-- _law_some(hand, things); slots 0:hand 1:things; lent [0] -/
def b__law_some : Ss := (.cons (.ret (.ix (.v 1) (.call 20 (.io 0 (.val (.bi .len (.cons (.v 1) .nil)) .nil))))) .nil)
def d__law_some : Df := ⟨"_law_some", ["hand", "things"], ["hand", "things"], top 34, b__law_some⟩
/-- _law_mixed(hand, things); slots 0:hand 1:things 2:left 3:found; lent [0] -/
def b__law_mixed : Ss := (.cons (.par (.cons (.nm 2) (.cons (.nm 3) .nil)) (.cons (.bi .lst (.cons (.v 1) .nil)) (.cons (.lst .nil) .nil))) (.cons (.whl (.cmp .gt (.bi .len (.cons (.v 2) .nil)) (.con (.int 0))) (.cons (.expr (.mu .append 3 (.cons (.mu .popAt 2 (.cons (.call 20 (.io 0 (.val (.bi .len (.cons (.v 2) .nil)) .nil))) .nil)) .nil))) .nil)) (.cons (.ret (.v 3)) .nil)))
def d__law_mixed : Df := ⟨"_law_mixed", ["hand", "things", "left", "found"], ["hand", "things"], top 35, b__law_mixed⟩
/-- _law_close(many, arrows); slots 0:many 1:arrows 2:found 3:middle 4:one 5:pair 6:some 7:other; lent [] -/
def b__law_close : Ss := (.cons (.set (.nm 2) (.comp (.v 5) (.nm 5) (.seq (.v 1)) .nil)) (.cons (.for (.nm 3) (.rng1 (.v 0)) (.cons (.for (.nm 4) (.rng1 (.v 0)) (.cons (.iff (.cmp .isin (.tup (.cons (.v 4) (.cons (.v 3) .nil))) (.v 2)) (.cons (.set (.nm 6) (.comp (.v 7) (.nm 7) (.rng1 (.v 0)) (.cons (.cmp .isin (.tup (.cons (.v 3) (.cons (.v 7) .nil))) (.v 2)) .nil))) (.cons (.set (.nm 2) (.op2 .add (.v 2) (.comp (.tup (.cons (.v 4) (.cons (.v 7) .nil))) (.nm 7) (.seq (.v 6)) (.cons (.cmp .notin (.tup (.cons (.v 4) (.cons (.v 7) .nil))) (.v 2)) .nil)))) (.cons (.wipe [6]) .nil))) .nil) (.cons (.wipe [4, 6]) .nil))) (.cons (.wipe [3, 4, 6]) .nil))) (.cons (.ret (.bi .srt (.cons (.bi .dic (.cons (.comp (.tup (.cons (.v 5) (.cons (.con (.int 1)) .nil))) (.nm 5) (.seq (.v 2)) .nil) .nil)) .nil))) .nil)))
def d__law_close : Df := ⟨"_law_close", ["many", "arrows", "found", "middle", "one", "pair", "some", "other"], ["many", "arrows"], top 36, b__law_close⟩
/-- _law_order(hand, most); slots 0:hand 1:most 2:many 3:row 4:arrows 5:share 6:at 7:one 8:other; lent [0] -/
def b__law_order : Ss := (.cons (.set (.nm 2) (.op2 .add (.con (.int 1)) (.call 20 (.io 0 (.val (.v 1) .nil))))) (.cons (.par (.cons (.nm 3) (.cons (.nm 4) (.cons (.nm 5) .nil))) (.cons (.call 22 (.io 0 (.val (.lrng (.rng1 (.v 2))) .nil))) (.cons (.lst .nil) (.cons (.op2 .add (.con (.int 1)) (.call 20 (.io 0 (.val (.con (.int 4)) .nil)))) .nil)))) (.cons (.for (.tp [6, 7]) (.enm (.v 3)) (.cons (.set (.nm 4) (.op2 .add (.v 4) (.comp (.tup (.cons (.v 7) (.cons (.v 8) .nil))) (.nm 8) (.seq (.sl (.v 3) (.op2 .add (.v 6) (.con (.int 1))) .no)) (.cons (.cmp .lt (.call 20 (.io 0 (.val (.con (.int 5)) .nil))) (.v 5)) .nil)))) (.cons (.wipe [6, 7]) .nil))) (.cons (.ret (.tup (.cons (.v 2) (.cons (.bi .tup (.cons (.call 23 (.val (.v 2) (.val (.v 4) .nil))) .nil)) .nil)))) .nil))))
def d__law_order : Df := ⟨"_law_order", ["hand", "most", "many", "row", "arrows", "share", "at", "one", "other"], ["hand", "most"], top 37, b__law_order⟩
/-- _law_lots(many); slots 0:many 1:found 2:one 3:size 4:lot; lent [] -/
def b__law_lots : Ss := (.cons (.set (.nm 1) (.lst (.cons (.tup .nil) .nil))) (.cons (.for (.nm 2) (.rng1 (.v 0)) (.cons (.set (.nm 1) (.op2 .add (.v 1) (.comp (.op2 .add (.v 4) (.tup (.cons (.v 2) .nil))) (.nm 4) (.seq (.v 1)) .nil))) (.cons (.wipe [2]) .nil))) (.cons (.ret (.comp (.v 4) (.tp [3, 4]) (.seq (.bi .srt (.cons (.comp (.tup (.cons (.bi .len (.cons (.v 4) .nil)) (.cons (.v 4) .nil))) (.nm 4) (.seq (.v 1)) .nil) .nil))) .nil)) .nil)))
def d__law_lots : Df := ⟨"_law_lots", ["many", "found", "one", "size", "lot"], ["many"], top 38, b__law_lots⟩
/-- _law_closed(order); slots 0:order 1:found 2:lot 3:one 4:other; lent [] -/
def b__law_closed : Ss := (.cons (.set (.nm 1) (.lst .nil)) (.cons (.for (.nm 2) (.seq (.call 25 (.val (.ix (.v 0) (.con (.int 0))) .nil))) (.cons (.iff (.bi .all (.cons (.comp (.cmp .isin (.v 3) (.v 2)) (.tp [3, 4]) (.seq (.ix (.v 0) (.con (.int 1)))) (.cons (.cmp .isin (.v 4) (.v 2)) .nil)) .nil)) (.cons (.expr (.mu .append 1 (.cons (.v 2) .nil))) .nil) .nil) (.cons (.wipe [2]) .nil))) (.cons (.ret (.v 1)) .nil)))
def d__law_closed : Df := ⟨"_law_closed", ["order", "found", "lot", "one", "other"], ["order"], top 39, b__law_closed⟩
/-- _law_weights(hand, many); slots 0:hand 1:many 2:some 3:point; lent [0] -/
def b__law_weights : Ss := (.cons (.set (.nm 2) (.lst (.cons (.con (.int 0)) (.cons (.con (.int 1)) (.cons (.con (.int 2)) (.cons (.con (.int 3)) (.cons (.con (.int 5)) (.cons (.con (.int 7)) (.cons (.con (.int 10)) (.cons (.neg (.con (.int 1))) (.cons (.neg (.con (.int 2))) (.cons (.neg (.con (.int 3))) (.cons (.neg (.con (.int 5))) (.cons (.neg (.con (.int 8))) (.cons (.neg (.con (.int 10))) (.cons (.con (.int 1000)) (.cons (.neg (.con (.int 1000))) .nil))))))))))))))))) (.cons (.ret (.bi .tup (.cons (.comp (.call 21 (.io 0 (.val (.v 2) .nil))) (.nm 3) (.rng1 (.v 1)) .nil) .nil))) .nil))
def d__law_weights : Df := ⟨"_law_weights", ["hand", "many", "some", "point"], ["hand", "many"], top 40, b__law_weights⟩
/-- _law_weigh(numbers, lot); slots 0:numbers 1:lot 2:point; lent [] -/
def b__law_weigh : Ss := (.cons (.ret (.bi .sum (.cons (.comp (.ix (.v 0) (.v 2)) (.nm 2) (.seq (.v 1)) .nil) .nil))) .nil)
def d__law_weigh : Df := ⟨"_law_weigh", ["numbers", "lot", "point"], ["numbers", "lot"], top 41, b__law_weigh⟩
/-- _law_is(told, due); slots 0:told 1:due 2:key 3:one 4:two; lent [] -/
def b__law_is : Ss := (.cons (.iff (.bi (.isi [.tuple, .list]) (.cons (.v 1) .nil)) (.cons (.iff (.or (.cmp .ne (.bi (.isi [.tuple]) (.cons (.v 0) .nil)) (.bi (.isi [.tuple]) (.cons (.v 1) .nil))) (.not (.bi (.isi [.tuple, .list]) (.cons (.v 0) .nil)))) (.cons (.ret (.con (.bool false))) .nil) .nil) (.cons (.ret (.and (.cmp .eq (.bi .len (.cons (.v 0) .nil)) (.bi .len (.cons (.v 1) .nil))) (.bi .all (.cons (.comp (.call 29 (.val (.v 3) (.val (.v 4) .nil))) (.tp [3, 4]) (.zip (.v 0) (.v 1)) .nil) .nil)))) .nil)) .nil) (.cons (.iff (.bi (.isi [.dict]) (.cons (.v 1) .nil)) (.cons (.iff (.or (.not (.bi (.isi [.dict]) (.cons (.v 0) .nil))) (.cmp .ne (.bi .len (.cons (.v 0) .nil)) (.bi .len (.cons (.v 1) .nil)))) (.cons (.ret (.con (.bool false))) .nil) .nil) (.cons (.ret (.bi .all (.cons (.comp (.and (.cmp .isin (.v 2) (.v 0)) (.call 29 (.val (.ix (.v 0) (.v 2)) (.val (.ix (.v 1) (.v 2)) .nil)))) (.nm 2) (.seq (.v 1)) .nil) .nil))) .nil)) .nil) (.cons (.iff (.or (.bi (.isi [.str]) (.cons (.v 1) .nil)) (.cmp .is_ (.v 1) (.con .none))) (.cons (.ret (.and (.cmp .eq (.bi (.isi [.str]) (.cons (.v 0) .nil)) (.bi (.isi [.str]) (.cons (.v 1) .nil))) (.cmp .eq (.v 0) (.v 1)))) .nil) .nil) (.cons (.ret (.and (.bi (.isi [.int]) (.cons (.v 0) .nil)) (.and (.cmp .eq (.bi (.isi [.bool]) (.cons (.v 0) .nil)) (.bi (.isi [.bool]) (.cons (.v 1) .nil))) (.cmp .eq (.v 0) (.v 1))))) .nil))))
def d__law_is : Df := ⟨"_law_is", ["told", "due", "key", "one", "two"], ["told", "due"], top 42, b__law_is⟩
/-- law(script); slots 0:script 1:hand 2:turn 3:order 4:weights 5:lots 6:best 7:some 8:told 9:one 10:point 11:other 12:many 13:due 14:lot; lent [] -/
def b_law : Ss := (.cons (.set (.nm 1) (.call 19 (.val (.v 0) .nil))) (.cons (.for (.nm 2) (.rng1 (.con (.int 6))) (.cons (.set (.nm 3) (.call 24 (.io 1 (.val (.con (.int 7)) .nil)))) (.cons (.set (.nm 4) (.call 27 (.io 1 (.val (.ix (.v 3) (.con (.int 0))) .nil)))) (.cons (.iff (.cmp .eq (.call 20 (.io 1 (.val (.con (.int 2)) .nil))) (.con (.int 0))) (.cons (.set (.nm 4) (.bi .tup (.cons (.comp (.call 21 (.io 1 (.val (.lst (.cons (.con (.int 0)) (.cons (.con (.int 0)) (.cons (.con (.int 1)) (.cons (.neg (.con (.int 1))) .nil))))) .nil))) (.nm 10) (.rng1 (.ix (.v 3) (.con (.int 0)))) .nil) .nil))) .nil) .nil) (.cons (.set (.nm 5) (.call 26 (.val (.v 3) .nil))) (.cons (.set (.nm 6) (.bi .mx (.cons (.comp (.call 28 (.val (.v 4) (.val (.v 14) .nil))) (.nm 14) (.seq (.v 5)) .nil) .nil))) (.cons (.set (.nm 7) (.comp (.v 14) (.nm 14) (.seq (.v 5)) (.cons (.cmp .eq (.call 28 (.val (.v 4) (.val (.v 14) .nil))) (.v 6)) .nil))) (.cons (.set (.nm 8) (.call 17 (.val (.v 3) (.val (.v 4) .nil)))) (.cons (.iff (.not (.call 29 (.val (.v 8) (.val (.bi .tup (.cons (.bi .srt (.cons (.v 7) .nil)) .nil)) .nil)))) (.cons (.ret (.con (.bool false))) .nil) .nil) (.cons (.iff (.or (.not (.call 29 (.val (.call 14 (.val (.v 3) (.val (.v 4) .nil))) (.val (.ix (.v 7) (.con (.int 0))) .nil)))) (.not (.call 29 (.val (.call 16 (.val (.v 3) (.val (.v 4) .nil))) (.val (.ix (.v 7) (.neg (.con (.int 1)))) .nil))))) (.cons (.ret (.con (.bool false))) .nil) .nil) (.cons (.for (.nm 9) (.seq (.v 7)) (.cons (.iff (.or (.not (.bi .all (.cons (.comp (.cmp .isin (.v 10) (.v 9)) (.nm 10) (.seq (.ix (.v 7) (.con (.int 0)))) .nil) .nil))) (.not (.bi .all (.cons (.comp (.cmp .isin (.v 10) (.ix (.v 7) (.neg (.con (.int 1))))) (.nm 10) (.seq (.v 9)) .nil) .nil)))) (.cons (.ret (.con (.bool false))) .nil) .nil) (.cons (.set (.nm 11) (.call 21 (.io 1 (.val (.v 7) .nil)))) (.cons (.iff (.cmp .notin (.bi .tup (.cons (.comp (.v 10) (.nm 10) (.seq (.v 9)) (.cons (.cmp .isin (.v 10) (.v 11)) .nil)) .nil)) (.v 8)) (.cons (.ret (.con (.bool false))) .nil) .nil) (.cons (.iff (.cmp .notin (.bi .tup (.cons (.bi .srt (.cons (.bi .dic (.cons (.comp (.tup (.cons (.v 10) (.cons (.con (.int 1)) .nil))) (.nm 10) (.seq (.op2 .add (.v 9) (.v 11))) .nil) .nil)) .nil)) .nil)) (.v 8)) (.cons (.ret (.con (.bool false))) .nil) .nil) (.cons (.wipe [9, 11]) .nil)))))) (.cons (.for (.nm 10) (.rng1 (.ix (.v 3) (.con (.int 0)))) (.cons (.set (.nm 12) (.bi .len (.cons (.comp (.v 14) (.nm 14) (.seq (.v 7)) (.cons (.cmp .isin (.v 10) (.v 14)) .nil)) .nil))) (.cons (.set (.nm 13) (.ite (.cmp .eq (.v 12) (.bi .len (.cons (.v 7) .nil))) (.con (.str "always")) (.ite (.cmp .eq (.v 12) (.con (.int 0))) (.con (.str "never")) (.con (.str "sometimes"))))) (.cons (.iff (.not (.call 29 (.val (.call 18 (.val (.v 3) (.val (.v 4) (.val (.v 10) .nil)))) (.val (.v 13) .nil)))) (.cons (.ret (.con (.bool false))) .nil) .nil) (.cons (.wipe [10, 12, 13]) .nil))))) (.cons (.wipe [2, 3, 4, 5, 6, 7, 8, 9, 10, 11, 12, 13]) .nil))))))))))))) (.cons (.ret (.con (.bool true))) .nil)))
def d_law : Df := ⟨"law", ["script", "hand", "turn", "order", "weights", "lots", "best", "some", "told", "one", "point", "other", "many", "due", "lot"], ["script"], top 43, b_law⟩
def tb : List Df := [d_is_integer, d_is_within, d_is_sized, d_are_pairs, d_is_order, d_check_order, d_all_lots, d_is_closed, d_closed_lots, d_are_weights_of, d_check_weights, d_weight_of, d_best_of, d_bests_of, d_least_best, d_greatest_in, d_greatest_best, d_all_best, d_in_all, d__law_hand, d__law_draw, d__law_some, d__law_mixed, d__law_close, d__law_order, d__law_lots, d__law_closed, d__law_weights, d__law_weigh, d__law_is, d_law]
def fns : List Fd := fnsOf tb
theorem s_is_integer : FnScope d_is_integer.N d_is_integer.ps (defScope d_is_integer.st) := ⟨rfl, rfl, rfl, by decide +kernel, rfl, by decide +kernel, by decide +kernel⟩
theorem m_is_integer : mSs ⟨d_is_integer.N, namesOf tb, GC⟩ (defScope d_is_integer.st) (fun _ => true) d_is_integer.body (defBody d_is_integer.st) = true := by decide +kernel
theorem s_is_within : FnScope d_is_within.N d_is_within.ps (defScope d_is_within.st) := ⟨rfl, rfl, rfl, by decide +kernel, rfl, by decide +kernel, by decide +kernel⟩
theorem m_is_within : mSs ⟨d_is_within.N, namesOf tb, GC⟩ (defScope d_is_within.st) (fun _ => true) d_is_within.body (defBody d_is_within.st) = true := by decide +kernel
theorem s_is_sized : FnScope d_is_sized.N d_is_sized.ps (defScope d_is_sized.st) := ⟨rfl, rfl, rfl, by decide +kernel, rfl, by decide +kernel, by decide +kernel⟩
theorem m_is_sized : mSs ⟨d_is_sized.N, namesOf tb, GC⟩ (defScope d_is_sized.st) (fun _ => true) d_is_sized.body (defBody d_is_sized.st) = true := by decide +kernel
theorem s_are_pairs : FnScope d_are_pairs.N d_are_pairs.ps (defScope d_are_pairs.st) := ⟨rfl, rfl, rfl, by decide +kernel, rfl, by decide +kernel, by decide +kernel⟩
theorem m_are_pairs : mSs ⟨d_are_pairs.N, namesOf tb, GC⟩ (defScope d_are_pairs.st) (fun _ => true) d_are_pairs.body (defBody d_are_pairs.st) = true := by decide +kernel
theorem s_is_order : FnScope d_is_order.N d_is_order.ps (defScope d_is_order.st) := ⟨rfl, rfl, rfl, by decide +kernel, rfl, by decide +kernel, by decide +kernel⟩
theorem m_is_order : mSs ⟨d_is_order.N, namesOf tb, GC⟩ (defScope d_is_order.st) (fun _ => true) d_is_order.body (defBody d_is_order.st) = true := by decide +kernel
theorem s_check_order : FnScope d_check_order.N d_check_order.ps (defScope d_check_order.st) := ⟨rfl, rfl, rfl, by decide +kernel, rfl, by decide +kernel, by decide +kernel⟩
theorem m_check_order : mSs ⟨d_check_order.N, namesOf tb, GC⟩ (defScope d_check_order.st) (fun _ => true) d_check_order.body (defBody d_check_order.st) = true := by decide +kernel
theorem s_all_lots : FnScope d_all_lots.N d_all_lots.ps (defScope d_all_lots.st) := ⟨rfl, rfl, rfl, by decide +kernel, rfl, by decide +kernel, by decide +kernel⟩
theorem m_all_lots : mSs ⟨d_all_lots.N, namesOf tb, GC⟩ (defScope d_all_lots.st) (fun _ => true) d_all_lots.body (defBody d_all_lots.st) = true := by decide +kernel
theorem s_is_closed : FnScope d_is_closed.N d_is_closed.ps (defScope d_is_closed.st) := ⟨rfl, rfl, rfl, by decide +kernel, rfl, by decide +kernel, by decide +kernel⟩
theorem m_is_closed : mSs ⟨d_is_closed.N, namesOf tb, GC⟩ (defScope d_is_closed.st) (fun _ => true) d_is_closed.body (defBody d_is_closed.st) = true := by decide +kernel
theorem s_closed_lots : FnScope d_closed_lots.N d_closed_lots.ps (defScope d_closed_lots.st) := ⟨rfl, rfl, rfl, by decide +kernel, rfl, by decide +kernel, by decide +kernel⟩
theorem m_closed_lots : mSs ⟨d_closed_lots.N, namesOf tb, GC⟩ (defScope d_closed_lots.st) (fun _ => true) d_closed_lots.body (defBody d_closed_lots.st) = true := by decide +kernel
theorem s_are_weights_of : FnScope d_are_weights_of.N d_are_weights_of.ps (defScope d_are_weights_of.st) := ⟨rfl, rfl, rfl, by decide +kernel, rfl, by decide +kernel, by decide +kernel⟩
theorem m_are_weights_of : mSs ⟨d_are_weights_of.N, namesOf tb, GC⟩ (defScope d_are_weights_of.st) (fun _ => true) d_are_weights_of.body (defBody d_are_weights_of.st) = true := by decide +kernel
theorem s_check_weights : FnScope d_check_weights.N d_check_weights.ps (defScope d_check_weights.st) := ⟨rfl, rfl, rfl, by decide +kernel, rfl, by decide +kernel, by decide +kernel⟩
theorem m_check_weights : mSs ⟨d_check_weights.N, namesOf tb, GC⟩ (defScope d_check_weights.st) (fun _ => true) d_check_weights.body (defBody d_check_weights.st) = true := by decide +kernel
theorem s_weight_of : FnScope d_weight_of.N d_weight_of.ps (defScope d_weight_of.st) := ⟨rfl, rfl, rfl, by decide +kernel, rfl, by decide +kernel, by decide +kernel⟩
theorem m_weight_of : mSs ⟨d_weight_of.N, namesOf tb, GC⟩ (defScope d_weight_of.st) (fun _ => true) d_weight_of.body (defBody d_weight_of.st) = true := by decide +kernel
theorem s_best_of : FnScope d_best_of.N d_best_of.ps (defScope d_best_of.st) := ⟨rfl, rfl, rfl, by decide +kernel, rfl, by decide +kernel, by decide +kernel⟩
theorem m_best_of : mSs ⟨d_best_of.N, namesOf tb, GC⟩ (defScope d_best_of.st) (fun _ => true) d_best_of.body (defBody d_best_of.st) = true := by decide +kernel
theorem s_bests_of : FnScope d_bests_of.N d_bests_of.ps (defScope d_bests_of.st) := ⟨rfl, rfl, rfl, by decide +kernel, rfl, by decide +kernel, by decide +kernel⟩
theorem m_bests_of : mSs ⟨d_bests_of.N, namesOf tb, GC⟩ (defScope d_bests_of.st) (fun _ => true) d_bests_of.body (defBody d_bests_of.st) = true := by decide +kernel
theorem s_least_best : FnScope d_least_best.N d_least_best.ps (defScope d_least_best.st) := ⟨rfl, rfl, rfl, by decide +kernel, rfl, by decide +kernel, by decide +kernel⟩
theorem m_least_best : mSs ⟨d_least_best.N, namesOf tb, GC⟩ (defScope d_least_best.st) (fun _ => true) d_least_best.body (defBody d_least_best.st) = true := by decide +kernel
theorem s_greatest_in : FnScope d_greatest_in.N d_greatest_in.ps (defScope d_greatest_in.st) := ⟨rfl, rfl, rfl, by decide +kernel, rfl, by decide +kernel, by decide +kernel⟩
theorem m_greatest_in : mSs ⟨d_greatest_in.N, namesOf tb, GC⟩ (defScope d_greatest_in.st) (fun _ => true) d_greatest_in.body (defBody d_greatest_in.st) = true := by decide +kernel
theorem s_greatest_best : FnScope d_greatest_best.N d_greatest_best.ps (defScope d_greatest_best.st) := ⟨rfl, rfl, rfl, by decide +kernel, rfl, by decide +kernel, by decide +kernel⟩
theorem m_greatest_best : mSs ⟨d_greatest_best.N, namesOf tb, GC⟩ (defScope d_greatest_best.st) (fun _ => true) d_greatest_best.body (defBody d_greatest_best.st) = true := by decide +kernel
theorem s_all_best : FnScope d_all_best.N d_all_best.ps (defScope d_all_best.st) := ⟨rfl, rfl, rfl, by decide +kernel, rfl, by decide +kernel, by decide +kernel⟩
theorem m_all_best : mSs ⟨d_all_best.N, namesOf tb, GC⟩ (defScope d_all_best.st) (fun _ => true) d_all_best.body (defBody d_all_best.st) = true := by decide +kernel
theorem s_in_all : FnScope d_in_all.N d_in_all.ps (defScope d_in_all.st) := ⟨rfl, rfl, rfl, by decide +kernel, rfl, by decide +kernel, by decide +kernel⟩
theorem m_in_all : mSs ⟨d_in_all.N, namesOf tb, GC⟩ (defScope d_in_all.st) (fun _ => true) d_in_all.body (defBody d_in_all.st) = true := by decide +kernel
theorem s__law_hand : FnScope d__law_hand.N d__law_hand.ps (defScope d__law_hand.st) := ⟨rfl, rfl, rfl, by decide +kernel, rfl, by decide +kernel, by decide +kernel⟩
theorem m__law_hand : mSs ⟨d__law_hand.N, namesOf tb, GC⟩ (defScope d__law_hand.st) (fun _ => true) d__law_hand.body (defBody d__law_hand.st) = true := by decide +kernel
theorem s__law_draw : FnScope d__law_draw.N d__law_draw.ps (defScope d__law_draw.st) := ⟨rfl, rfl, rfl, by decide +kernel, rfl, by decide +kernel, by decide +kernel⟩
theorem m__law_draw : mSs ⟨d__law_draw.N, namesOf tb, GC⟩ (defScope d__law_draw.st) (fun _ => true) d__law_draw.body (defBody d__law_draw.st) = true := by decide +kernel
theorem s__law_some : FnScope d__law_some.N d__law_some.ps (defScope d__law_some.st) := ⟨rfl, rfl, rfl, by decide +kernel, rfl, by decide +kernel, by decide +kernel⟩
theorem m__law_some : mSs ⟨d__law_some.N, namesOf tb, GC⟩ (defScope d__law_some.st) (fun _ => true) d__law_some.body (defBody d__law_some.st) = true := by decide +kernel
theorem s__law_mixed : FnScope d__law_mixed.N d__law_mixed.ps (defScope d__law_mixed.st) := ⟨rfl, rfl, rfl, by decide +kernel, rfl, by decide +kernel, by decide +kernel⟩
theorem m__law_mixed : mSs ⟨d__law_mixed.N, namesOf tb, GC⟩ (defScope d__law_mixed.st) (fun _ => true) d__law_mixed.body (defBody d__law_mixed.st) = true := by decide +kernel
theorem s__law_close : FnScope d__law_close.N d__law_close.ps (defScope d__law_close.st) := ⟨rfl, rfl, rfl, by decide +kernel, rfl, by decide +kernel, by decide +kernel⟩
theorem m__law_close : mSs ⟨d__law_close.N, namesOf tb, GC⟩ (defScope d__law_close.st) (fun _ => true) d__law_close.body (defBody d__law_close.st) = true := by decide +kernel
theorem s__law_order : FnScope d__law_order.N d__law_order.ps (defScope d__law_order.st) := ⟨rfl, rfl, rfl, by decide +kernel, rfl, by decide +kernel, by decide +kernel⟩
theorem m__law_order : mSs ⟨d__law_order.N, namesOf tb, GC⟩ (defScope d__law_order.st) (fun _ => true) d__law_order.body (defBody d__law_order.st) = true := by decide +kernel
theorem s__law_lots : FnScope d__law_lots.N d__law_lots.ps (defScope d__law_lots.st) := ⟨rfl, rfl, rfl, by decide +kernel, rfl, by decide +kernel, by decide +kernel⟩
theorem m__law_lots : mSs ⟨d__law_lots.N, namesOf tb, GC⟩ (defScope d__law_lots.st) (fun _ => true) d__law_lots.body (defBody d__law_lots.st) = true := by decide +kernel
theorem s__law_closed : FnScope d__law_closed.N d__law_closed.ps (defScope d__law_closed.st) := ⟨rfl, rfl, rfl, by decide +kernel, rfl, by decide +kernel, by decide +kernel⟩
theorem m__law_closed : mSs ⟨d__law_closed.N, namesOf tb, GC⟩ (defScope d__law_closed.st) (fun _ => true) d__law_closed.body (defBody d__law_closed.st) = true := by decide +kernel
theorem s__law_weights : FnScope d__law_weights.N d__law_weights.ps (defScope d__law_weights.st) := ⟨rfl, rfl, rfl, by decide +kernel, rfl, by decide +kernel, by decide +kernel⟩
theorem m__law_weights : mSs ⟨d__law_weights.N, namesOf tb, GC⟩ (defScope d__law_weights.st) (fun _ => true) d__law_weights.body (defBody d__law_weights.st) = true := by decide +kernel
theorem s__law_weigh : FnScope d__law_weigh.N d__law_weigh.ps (defScope d__law_weigh.st) := ⟨rfl, rfl, rfl, by decide +kernel, rfl, by decide +kernel, by decide +kernel⟩
theorem m__law_weigh : mSs ⟨d__law_weigh.N, namesOf tb, GC⟩ (defScope d__law_weigh.st) (fun _ => true) d__law_weigh.body (defBody d__law_weigh.st) = true := by decide +kernel
theorem s__law_is : FnScope d__law_is.N d__law_is.ps (defScope d__law_is.st) := ⟨rfl, rfl, rfl, by decide +kernel, rfl, by decide +kernel, by decide +kernel⟩
theorem m__law_is : mSs ⟨d__law_is.N, namesOf tb, GC⟩ (defScope d__law_is.st) (fun _ => true) d__law_is.body (defBody d__law_is.st) = true := by decide +kernel
theorem s_law : FnScope d_law.N d_law.ps (defScope d_law.st) := ⟨rfl, rfl, rfl, by decide +kernel, rfl, by decide +kernel, by decide +kernel⟩
theorem m_law : mSs ⟨d_law.N, namesOf tb, GC⟩ (defScope d_law.st) (fun _ => true) d_law.body (defBody d_law.st) = true := by decide +kernel
end K84

set_option Elab.async false
set_option linter.all false
set_option maxRecDepth 100000
set_option maxHeartbeats 4000000
/-! K84b: the defs of k84, level by level; the plain law. -/
namespace K84
set_option autoImplicit false
open PySem PySem.W PI
abbrev Cx (l : Nat) : PI.Ctx := ⟨run fns 1000 l, 1000⟩
theorem at_ {l k np ns : Nat} {body : Ss} {as : List Ar} {r : Bool × D × List D} (hc : callB (Cx l) ns body as = some r) (hl : as.length = np) (h : fns[k]? = some ⟨np, ns, body⟩) : (Cx (l + 1)).cal k as = some r := by
  show run fns 1000 (l + 1) k as = some r
  rw [run_callB h hl]
  exact hc
theorem p_int (l : Nat) : IntOk (Cx (l + 1)) 0 := fun i => at_ (integer_ok i) rfl rfl
theorem p_within (l : Nat) : WithinOk (Cx (l + 2)) 1 := fun i a b => at_ (within_ok (p_int l) i a b) rfl rfl
theorem p_sized (l : Nat) : SizedOk (Cx (l + 1)) 2 := fun xs a b => at_ (sized_ok xs a b) rfl rfl
theorem p_pairs (l : Nat) : PairsOk (Cx (l + 3)) 3 := fun n ps h => at_ (pairs_ok (p_sized (l + 1)) (p_within l) n ps h) rfl rfl
theorem p_order (l : Nat) : OrdTOk (Cx (l + 4)) 4 := fun n ps h1 h2 ho => at_ (order_t (p_sized (l + 2)) (p_within (l + 1)) (p_pairs l) h1 h2 ho) rfl rfl
theorem p_check (l : Nat) : ChkOk (Cx (l + 5)) 5 := fun n ps h1 h2 ho => at_ (check_ok (p_order l) h1 h2 ho) rfl rfl
theorem p_lots (l : Nat) : AllLotsOk (Cx (l + 1)) 6 := fun n hn => at_ (all_lots_ok hn) rfl rfl
theorem p_isclo (l : Nat) : IsCloOk (Cx (l + 1)) 7 := fun n ps x => at_ (is_closed_ok n ps x) rfl rfl
theorem p_closed (l : Nat) : ClosedOk (Cx (l + 2)) 8 := fun n ps hn => at_ (closed_ok (p_lots l) (p_isclo l) hn) rfl rfl
theorem p_arew (l : Nat) : AreWOk (Cx (l + 3)) 9 := fun n ps ws h => at_ (are_weights_ok (p_sized (l + 1)) (p_within l) h) rfl rfl
theorem p_chkw (l : Nat) : ChkWOk (Cx (l + 6)) 10 := fun n ps ws h1 h2 ho h => at_ (check_weights_ok (p_check l) (p_arew (l + 2)) h1 h2 ho h) rfl rfl
theorem p_wt (l : Nat) : WtOk (Cx (l + 1)) 11 := fun ws x h => at_ (weight_ok ws x h) rfl rfl
theorem p_best (l : Nat) : BestOk (Cx (l + 3)) 12 := fun n ps ws hn h => at_ (best_ok (p_wt (l + 1)) (p_closed l) hn h) rfl rfl
theorem p_bests (l : Nat) : BestsOk (Cx (l + 4)) 13 := fun n ps ws hn h => at_ (bests_ok (p_best l) (p_wt (l + 2)) (p_closed (l + 1)) hn h) rfl rfl
theorem p_least (l : Nat) : LeastOk (Cx (l + 7)) 14 := fun n ps ws h1 h2 ho h => at_ (least_ok (p_chkw l) (p_bests (l + 2)) h1 h2 ho h) rfl rfl
theorem p_gin (l : Nat) : GreatInOk (Cx (l + 1)) 15 := fun xs h => at_ (great_in_ok h) rfl rfl
theorem p_great (l : Nat) : GreatOk (Cx (l + 7)) 16 := fun n ps ws h1 h2 ho h => at_ (great_ok (p_chkw l) (p_gin (l + 5)) (p_bests (l + 2)) h1 h2 ho h) rfl rfl
theorem p_all (l : Nat) : AllBOk (Cx (l + 7)) 17 := fun n ps ws h1 h2 ho h => at_ (all_best_ok (p_chkw l) (p_bests (l + 2)) h1 h2 ho h) rfl rfl
theorem p_inall (l : Nat) : InAllOk (Cx (l + 7)) 18 := fun n ps ws z h1 h2 ho h hz => at_ (in_all_ok (p_chkw l) (p_within (l + 4)) (p_bests (l + 2)) h1 h2 ho h hz) rfl rfl
theorem p_hand (l : Nat) (ns : List Int) (hl : ns.length ≤ 63) : ∃ h, (Cx (l + 1)).cal 19 [.sh (scrOf ns)] = some (true, h, []) ∧ HandOk h := let ⟨h, e, hh⟩ := hand_ok hl; ⟨h, at_ e rfl rfl, hh⟩
theorem p_draw (l : Nat) : DrawOk (Cx (l + 1)) 20 := fun h many hh h1 h2 => let ⟨f, h', e, q⟩ := draw_ok hh h1 h2; ⟨f, h', at_ e rfl rfl, q⟩
theorem p_some (l : Nat) : SomeOk (Cx (l + 2)) 21 := fun h xs hh h1 h2 => let ⟨d, h', e, q⟩ := some_ok (p_draw l) hh h1 h2; ⟨d, h', at_ e rfl rfl, q⟩
theorem p_mixed (l : Nat) : MixOk (Cx (l + 2)) 22 := fun h xs hh h1 => let ⟨d, h', e, q⟩ := mixed_ok (p_draw l) (Nat.le_refl _) hh h1; ⟨d, h', at_ e rfl rfl, q⟩
theorem p_close (l : Nat) : CloOk (Cx (l + 1)) 23 := fun n pos arrows hn hb => let ⟨f, e, q⟩ := close_ok hn hb; ⟨f, at_ e rfl rfl, q⟩
theorem p_lorder (l : Nat) : OrderOk (Cx (l + 3)) 24 7 := fun h hh => let ⟨n, ps, h', e, q⟩ := order_ok (p_draw (l + 1)) (p_mixed l) (p_close (l + 1)) (by omega) (by omega) hh; ⟨n, ps, h', at_ e rfl rfl, q⟩
theorem p_llots (l : Nat) : LLotsOk (Cx (l + 1)) 25 := fun n hn => at_ (law_lots_ok hn) rfl rfl
theorem p_lclosed (l : Nat) : LClosedOk (Cx (l + 2)) 26 := fun n ps hn => at_ (law_closed_ok (p_llots l) hn) rfl rfl
theorem p_weights (l : Nat) : WeightsOk (Cx (l + 3)) 27 := fun h n hh hn => let ⟨ws, h', e, q⟩ := weights_ok (p_some l) hh hn; ⟨ws, h', at_ e rfl rfl, q⟩
theorem p_weigh (l : Nat) : WtOk (Cx (l + 1)) 28 := fun ws x h => at_ (wt_law ws x h) rfl rfl
theorem p_is0 (l : Nat) (i : Int) : Self (Cx (l + 1)) 29 (.int i) := at_ (is_int i) rfl rfl
theorem p_is1 (l : Nat) (x : LT) : Self (Cx (l + 2)) 29 (el x) := at_ (is_tup fun d hd => by
  obtain ⟨i, _, rfl⟩ := List.mem_map.mp hd
  exact p_is0 l i) rfl rfl
theorem p_is (l : Nat) : LikeOk (Cx (l + 3)) 29 := fun d hd => by
  cases hd with
  | int i => exact p_is0 (l + 2) i
  | str x => exact at_ (is_str x) rfl rfl
  | lot x => exact p_is1 (l + 1) x
  | lots ls => exact at_ (is_tup fun d hd => by
      obtain ⟨x, _, rfl⟩ := List.mem_map.mp hd
      exact p_is1 l x) rfl rfl
theorem p_law : L84 (Cx 11) 19 24 27 20 21 26 28 17 29 14 16 18 where
  hand := p_hand 10
  order := p_lorder 8
  weights := p_weights 8
  draw := p_draw 10
  some' := p_some 9
  closed := p_lclosed 9
  weigh := p_weigh 10
  allb := p_all 4
  like := p_is 8
  least := p_least 4
  great := p_great 4
  inall := p_inall 4
theorem plain (ns : List Int) (hl : ns.length ≤ 63) : ∃ fr, run fns 1000 12 30 [.sh (scrOf ns)] = some (fr, .bool true, []) := ⟨false, at_ (l := 11) (k := 30) (law84_ok p_law hl) rfl rfl⟩
end K84

set_option Elab.async false
set_option linter.all false
set_option maxRecDepth 100000
set_option maxHeartbeats 4000000

namespace K84
set_option autoImplicit false
open PySem PySem.Spec PySem.W L2 PI
open PyProof.Rows hiding St
section
variable {K : PySem.W.Frag} {h : Heap} {mg : Str → Option Value}
/-- a def as the top has written it -/
structure Wr (K : PySem.W.Frag) (e : Df) (f : Addr) (od an : Option Addr) (sl : Array (Option Value)) (oc kV dc pm cd ct : Value) : Prop where
  a : PySem.W.nsIn K mainGlobals e.nm = some (some (.ref f))
  l : K.lookup f = some ⟨oc, od, .func (PySem.W.fnOf e.nm e.nm (defArgs e.st) (defBody e.st) (defScope e.st) .none kV dc pm an cd ct), sl⟩
  c : PySem.W.codeIn K cd e.nm = true
  k : PySem.W.keepIn K (.ref f) = true
theorem wr_ok {e : Df} {f : Addr} {od an : Option Addr} {sl : Array (Option Value)} {oc kV dc pm cd ct : Value} (X : K.In h) (G : h.Ns mainGlobals mg) (z : Wr K e f od an sl oc kV dc pm cd ct)
    (hb : ∀ (kV doc pm : Value) (an : Option Addr) (cdv ct : Value) (us : List Value), us.length = e.ps.length → bindArgs (PySem.W.fnOf e.nm e.nm (defArgs e.st) (defBody e.st) (defScope e.st) .none kV doc pm an cdv ct) ⟨us, []⟩ = pure (e.ps.zip us)) :
    ∃ fa fd, Fun K e.nm e.nm e.st fa fd ∧ mg e.nm = some (.ref fa) ∧ ∀ us : List Value, us.length = e.ps.length → bindArgs fd ⟨us, []⟩ = pure (e.ps.zip us) :=
  ⟨f, _, fun_mk z.l z.c z.k, PySem.W.mg_of X G z.a, hb _ _ _ _ _ _⟩
end
theorem b2_is_integer (kV doc pm : Value) (an : Option Addr) (cdv ct : Value) (us : List Value) (hl : us.length = d_is_integer.ps.length) : bindArgs (PySem.W.fnOf d_is_integer.nm d_is_integer.nm (defArgs d_is_integer.st) (defBody d_is_integer.st) (defScope d_is_integer.st) .none kV doc pm an cdv ct) ⟨us, []⟩ = pure (d_is_integer.ps.zip us) := match us, hl with | [_], _ => rfl
theorem b2_is_within (kV doc pm : Value) (an : Option Addr) (cdv ct : Value) (us : List Value) (hl : us.length = d_is_within.ps.length) : bindArgs (PySem.W.fnOf d_is_within.nm d_is_within.nm (defArgs d_is_within.st) (defBody d_is_within.st) (defScope d_is_within.st) .none kV doc pm an cdv ct) ⟨us, []⟩ = pure (d_is_within.ps.zip us) := match us, hl with | [_, _, _], _ => rfl
theorem b2_is_sized (kV doc pm : Value) (an : Option Addr) (cdv ct : Value) (us : List Value) (hl : us.length = d_is_sized.ps.length) : bindArgs (PySem.W.fnOf d_is_sized.nm d_is_sized.nm (defArgs d_is_sized.st) (defBody d_is_sized.st) (defScope d_is_sized.st) .none kV doc pm an cdv ct) ⟨us, []⟩ = pure (d_is_sized.ps.zip us) := match us, hl with | [_, _, _], _ => rfl
theorem b2_are_pairs (kV doc pm : Value) (an : Option Addr) (cdv ct : Value) (us : List Value) (hl : us.length = d_are_pairs.ps.length) : bindArgs (PySem.W.fnOf d_are_pairs.nm d_are_pairs.nm (defArgs d_are_pairs.st) (defBody d_are_pairs.st) (defScope d_are_pairs.st) .none kV doc pm an cdv ct) ⟨us, []⟩ = pure (d_are_pairs.ps.zip us) := match us, hl with | [_, _], _ => rfl
theorem b2_is_order (kV doc pm : Value) (an : Option Addr) (cdv ct : Value) (us : List Value) (hl : us.length = d_is_order.ps.length) : bindArgs (PySem.W.fnOf d_is_order.nm d_is_order.nm (defArgs d_is_order.st) (defBody d_is_order.st) (defScope d_is_order.st) .none kV doc pm an cdv ct) ⟨us, []⟩ = pure (d_is_order.ps.zip us) := match us, hl with | [_], _ => rfl
theorem b2_check_order (kV doc pm : Value) (an : Option Addr) (cdv ct : Value) (us : List Value) (hl : us.length = d_check_order.ps.length) : bindArgs (PySem.W.fnOf d_check_order.nm d_check_order.nm (defArgs d_check_order.st) (defBody d_check_order.st) (defScope d_check_order.st) .none kV doc pm an cdv ct) ⟨us, []⟩ = pure (d_check_order.ps.zip us) := match us, hl with | [_], _ => rfl
theorem b2_all_lots (kV doc pm : Value) (an : Option Addr) (cdv ct : Value) (us : List Value) (hl : us.length = d_all_lots.ps.length) : bindArgs (PySem.W.fnOf d_all_lots.nm d_all_lots.nm (defArgs d_all_lots.st) (defBody d_all_lots.st) (defScope d_all_lots.st) .none kV doc pm an cdv ct) ⟨us, []⟩ = pure (d_all_lots.ps.zip us) := match us, hl with | [_], _ => rfl
theorem b2_is_closed (kV doc pm : Value) (an : Option Addr) (cdv ct : Value) (us : List Value) (hl : us.length = d_is_closed.ps.length) : bindArgs (PySem.W.fnOf d_is_closed.nm d_is_closed.nm (defArgs d_is_closed.st) (defBody d_is_closed.st) (defScope d_is_closed.st) .none kV doc pm an cdv ct) ⟨us, []⟩ = pure (d_is_closed.ps.zip us) := match us, hl with | [_, _], _ => rfl
theorem b2_closed_lots (kV doc pm : Value) (an : Option Addr) (cdv ct : Value) (us : List Value) (hl : us.length = d_closed_lots.ps.length) : bindArgs (PySem.W.fnOf d_closed_lots.nm d_closed_lots.nm (defArgs d_closed_lots.st) (defBody d_closed_lots.st) (defScope d_closed_lots.st) .none kV doc pm an cdv ct) ⟨us, []⟩ = pure (d_closed_lots.ps.zip us) := match us, hl with | [_], _ => rfl
theorem b2_are_weights_of (kV doc pm : Value) (an : Option Addr) (cdv ct : Value) (us : List Value) (hl : us.length = d_are_weights_of.ps.length) : bindArgs (PySem.W.fnOf d_are_weights_of.nm d_are_weights_of.nm (defArgs d_are_weights_of.st) (defBody d_are_weights_of.st) (defScope d_are_weights_of.st) .none kV doc pm an cdv ct) ⟨us, []⟩ = pure (d_are_weights_of.ps.zip us) := match us, hl with | [_, _], _ => rfl
theorem b2_check_weights (kV doc pm : Value) (an : Option Addr) (cdv ct : Value) (us : List Value) (hl : us.length = d_check_weights.ps.length) : bindArgs (PySem.W.fnOf d_check_weights.nm d_check_weights.nm (defArgs d_check_weights.st) (defBody d_check_weights.st) (defScope d_check_weights.st) .none kV doc pm an cdv ct) ⟨us, []⟩ = pure (d_check_weights.ps.zip us) := match us, hl with | [_, _], _ => rfl
theorem b2_weight_of (kV doc pm : Value) (an : Option Addr) (cdv ct : Value) (us : List Value) (hl : us.length = d_weight_of.ps.length) : bindArgs (PySem.W.fnOf d_weight_of.nm d_weight_of.nm (defArgs d_weight_of.st) (defBody d_weight_of.st) (defScope d_weight_of.st) .none kV doc pm an cdv ct) ⟨us, []⟩ = pure (d_weight_of.ps.zip us) := match us, hl with | [_, _], _ => rfl
theorem b2_best_of (kV doc pm : Value) (an : Option Addr) (cdv ct : Value) (us : List Value) (hl : us.length = d_best_of.ps.length) : bindArgs (PySem.W.fnOf d_best_of.nm d_best_of.nm (defArgs d_best_of.st) (defBody d_best_of.st) (defScope d_best_of.st) .none kV doc pm an cdv ct) ⟨us, []⟩ = pure (d_best_of.ps.zip us) := match us, hl with | [_, _], _ => rfl
theorem b2_bests_of (kV doc pm : Value) (an : Option Addr) (cdv ct : Value) (us : List Value) (hl : us.length = d_bests_of.ps.length) : bindArgs (PySem.W.fnOf d_bests_of.nm d_bests_of.nm (defArgs d_bests_of.st) (defBody d_bests_of.st) (defScope d_bests_of.st) .none kV doc pm an cdv ct) ⟨us, []⟩ = pure (d_bests_of.ps.zip us) := match us, hl with | [_, _], _ => rfl
theorem b2_least_best (kV doc pm : Value) (an : Option Addr) (cdv ct : Value) (us : List Value) (hl : us.length = d_least_best.ps.length) : bindArgs (PySem.W.fnOf d_least_best.nm d_least_best.nm (defArgs d_least_best.st) (defBody d_least_best.st) (defScope d_least_best.st) .none kV doc pm an cdv ct) ⟨us, []⟩ = pure (d_least_best.ps.zip us) := match us, hl with | [_, _], _ => rfl
theorem b2_greatest_in (kV doc pm : Value) (an : Option Addr) (cdv ct : Value) (us : List Value) (hl : us.length = d_greatest_in.ps.length) : bindArgs (PySem.W.fnOf d_greatest_in.nm d_greatest_in.nm (defArgs d_greatest_in.st) (defBody d_greatest_in.st) (defScope d_greatest_in.st) .none kV doc pm an cdv ct) ⟨us, []⟩ = pure (d_greatest_in.ps.zip us) := match us, hl with | [_], _ => rfl
theorem b2_greatest_best (kV doc pm : Value) (an : Option Addr) (cdv ct : Value) (us : List Value) (hl : us.length = d_greatest_best.ps.length) : bindArgs (PySem.W.fnOf d_greatest_best.nm d_greatest_best.nm (defArgs d_greatest_best.st) (defBody d_greatest_best.st) (defScope d_greatest_best.st) .none kV doc pm an cdv ct) ⟨us, []⟩ = pure (d_greatest_best.ps.zip us) := match us, hl with | [_, _], _ => rfl
theorem b2_all_best (kV doc pm : Value) (an : Option Addr) (cdv ct : Value) (us : List Value) (hl : us.length = d_all_best.ps.length) : bindArgs (PySem.W.fnOf d_all_best.nm d_all_best.nm (defArgs d_all_best.st) (defBody d_all_best.st) (defScope d_all_best.st) .none kV doc pm an cdv ct) ⟨us, []⟩ = pure (d_all_best.ps.zip us) := match us, hl with | [_, _], _ => rfl
theorem b2_in_all (kV doc pm : Value) (an : Option Addr) (cdv ct : Value) (us : List Value) (hl : us.length = d_in_all.ps.length) : bindArgs (PySem.W.fnOf d_in_all.nm d_in_all.nm (defArgs d_in_all.st) (defBody d_in_all.st) (defScope d_in_all.st) .none kV doc pm an cdv ct) ⟨us, []⟩ = pure (d_in_all.ps.zip us) := match us, hl with | [_, _, _], _ => rfl
theorem b2__law_hand (kV doc pm : Value) (an : Option Addr) (cdv ct : Value) (us : List Value) (hl : us.length = d__law_hand.ps.length) : bindArgs (PySem.W.fnOf d__law_hand.nm d__law_hand.nm (defArgs d__law_hand.st) (defBody d__law_hand.st) (defScope d__law_hand.st) .none kV doc pm an cdv ct) ⟨us, []⟩ = pure (d__law_hand.ps.zip us) := match us, hl with | [_], _ => rfl
theorem b2__law_draw (kV doc pm : Value) (an : Option Addr) (cdv ct : Value) (us : List Value) (hl : us.length = d__law_draw.ps.length) : bindArgs (PySem.W.fnOf d__law_draw.nm d__law_draw.nm (defArgs d__law_draw.st) (defBody d__law_draw.st) (defScope d__law_draw.st) .none kV doc pm an cdv ct) ⟨us, []⟩ = pure (d__law_draw.ps.zip us) := match us, hl with | [_, _], _ => rfl
theorem b2__law_some (kV doc pm : Value) (an : Option Addr) (cdv ct : Value) (us : List Value) (hl : us.length = d__law_some.ps.length) : bindArgs (PySem.W.fnOf d__law_some.nm d__law_some.nm (defArgs d__law_some.st) (defBody d__law_some.st) (defScope d__law_some.st) .none kV doc pm an cdv ct) ⟨us, []⟩ = pure (d__law_some.ps.zip us) := match us, hl with | [_, _], _ => rfl
theorem b2__law_mixed (kV doc pm : Value) (an : Option Addr) (cdv ct : Value) (us : List Value) (hl : us.length = d__law_mixed.ps.length) : bindArgs (PySem.W.fnOf d__law_mixed.nm d__law_mixed.nm (defArgs d__law_mixed.st) (defBody d__law_mixed.st) (defScope d__law_mixed.st) .none kV doc pm an cdv ct) ⟨us, []⟩ = pure (d__law_mixed.ps.zip us) := match us, hl with | [_, _], _ => rfl
theorem b2__law_close (kV doc pm : Value) (an : Option Addr) (cdv ct : Value) (us : List Value) (hl : us.length = d__law_close.ps.length) : bindArgs (PySem.W.fnOf d__law_close.nm d__law_close.nm (defArgs d__law_close.st) (defBody d__law_close.st) (defScope d__law_close.st) .none kV doc pm an cdv ct) ⟨us, []⟩ = pure (d__law_close.ps.zip us) := match us, hl with | [_, _], _ => rfl
theorem b2__law_order (kV doc pm : Value) (an : Option Addr) (cdv ct : Value) (us : List Value) (hl : us.length = d__law_order.ps.length) : bindArgs (PySem.W.fnOf d__law_order.nm d__law_order.nm (defArgs d__law_order.st) (defBody d__law_order.st) (defScope d__law_order.st) .none kV doc pm an cdv ct) ⟨us, []⟩ = pure (d__law_order.ps.zip us) := match us, hl with | [_, _], _ => rfl
theorem b2__law_lots (kV doc pm : Value) (an : Option Addr) (cdv ct : Value) (us : List Value) (hl : us.length = d__law_lots.ps.length) : bindArgs (PySem.W.fnOf d__law_lots.nm d__law_lots.nm (defArgs d__law_lots.st) (defBody d__law_lots.st) (defScope d__law_lots.st) .none kV doc pm an cdv ct) ⟨us, []⟩ = pure (d__law_lots.ps.zip us) := match us, hl with | [_], _ => rfl
theorem b2__law_closed (kV doc pm : Value) (an : Option Addr) (cdv ct : Value) (us : List Value) (hl : us.length = d__law_closed.ps.length) : bindArgs (PySem.W.fnOf d__law_closed.nm d__law_closed.nm (defArgs d__law_closed.st) (defBody d__law_closed.st) (defScope d__law_closed.st) .none kV doc pm an cdv ct) ⟨us, []⟩ = pure (d__law_closed.ps.zip us) := match us, hl with | [_], _ => rfl
theorem b2__law_weights (kV doc pm : Value) (an : Option Addr) (cdv ct : Value) (us : List Value) (hl : us.length = d__law_weights.ps.length) : bindArgs (PySem.W.fnOf d__law_weights.nm d__law_weights.nm (defArgs d__law_weights.st) (defBody d__law_weights.st) (defScope d__law_weights.st) .none kV doc pm an cdv ct) ⟨us, []⟩ = pure (d__law_weights.ps.zip us) := match us, hl with | [_, _], _ => rfl
theorem b2__law_weigh (kV doc pm : Value) (an : Option Addr) (cdv ct : Value) (us : List Value) (hl : us.length = d__law_weigh.ps.length) : bindArgs (PySem.W.fnOf d__law_weigh.nm d__law_weigh.nm (defArgs d__law_weigh.st) (defBody d__law_weigh.st) (defScope d__law_weigh.st) .none kV doc pm an cdv ct) ⟨us, []⟩ = pure (d__law_weigh.ps.zip us) := match us, hl with | [_, _], _ => rfl
theorem b2__law_is (kV doc pm : Value) (an : Option Addr) (cdv ct : Value) (us : List Value) (hl : us.length = d__law_is.ps.length) : bindArgs (PySem.W.fnOf d__law_is.nm d__law_is.nm (defArgs d__law_is.st) (defBody d__law_is.st) (defScope d__law_is.st) .none kV doc pm an cdv ct) ⟨us, []⟩ = pure (d__law_is.ps.zip us) := match us, hl with | [_, _], _ => rfl
theorem b2_law (kV doc pm : Value) (an : Option Addr) (cdv ct : Value) (us : List Value) (hl : us.length = d_law.ps.length) : bindArgs (PySem.W.fnOf d_law.nm d_law.nm (defArgs d_law.st) (defBody d_law.st) (defScope d_law.st) .none kV doc pm an cdv ct) ⟨us, []⟩ = pure (d_law.ps.zip us) := match us, hl with | [_], _ => rfl
theorem law_fn {w : World} {K : PySem.W.Frag} {h : Heap} {mg : Str → Option Value} {fa : Addr} (X : K.In h) (G : h.Ns mainGlobals mg) (hfa : mg "law" = some (.ref fa)) {f0 : Addr} {od0 an0 : Option Addr} {sl0 : Array (Option Value)} {oc0 kV0 dc0 pm0 cd0 ct0 : Value} {f1 : Addr} {od1 an1 : Option Addr} {sl1 : Array (Option Value)} {oc1 kV1 dc1 pm1 cd1 ct1 : Value} {f2 : Addr} {od2 an2 : Option Addr} {sl2 : Array (Option Value)} {oc2 kV2 dc2 pm2 cd2 ct2 : Value} {f3 : Addr} {od3 an3 : Option Addr} {sl3 : Array (Option Value)} {oc3 kV3 dc3 pm3 cd3 ct3 : Value} {f4 : Addr} {od4 an4 : Option Addr} {sl4 : Array (Option Value)} {oc4 kV4 dc4 pm4 cd4 ct4 : Value} {f5 : Addr} {od5 an5 : Option Addr} {sl5 : Array (Option Value)} {oc5 kV5 dc5 pm5 cd5 ct5 : Value} {f6 : Addr} {od6 an6 : Option Addr} {sl6 : Array (Option Value)} {oc6 kV6 dc6 pm6 cd6 ct6 : Value} {f7 : Addr} {od7 an7 : Option Addr} {sl7 : Array (Option Value)} {oc7 kV7 dc7 pm7 cd7 ct7 : Value} {f8 : Addr} {od8 an8 : Option Addr} {sl8 : Array (Option Value)} {oc8 kV8 dc8 pm8 cd8 ct8 : Value} {f9 : Addr} {od9 an9 : Option Addr} {sl9 : Array (Option Value)} {oc9 kV9 dc9 pm9 cd9 ct9 : Value} {f10 : Addr} {od10 an10 : Option Addr} {sl10 : Array (Option Value)} {oc10 kV10 dc10 pm10 cd10 ct10 : Value} {f11 : Addr} {od11 an11 : Option Addr} {sl11 : Array (Option Value)} {oc11 kV11 dc11 pm11 cd11 ct11 : Value} {f12 : Addr} {od12 an12 : Option Addr} {sl12 : Array (Option Value)} {oc12 kV12 dc12 pm12 cd12 ct12 : Value} {f13 : Addr} {od13 an13 : Option Addr} {sl13 : Array (Option Value)} {oc13 kV13 dc13 pm13 cd13 ct13 : Value} {f14 : Addr} {od14 an14 : Option Addr} {sl14 : Array (Option Value)} {oc14 kV14 dc14 pm14 cd14 ct14 : Value} {f15 : Addr} {od15 an15 : Option Addr} {sl15 : Array (Option Value)} {oc15 kV15 dc15 pm15 cd15 ct15 : Value} {f16 : Addr} {od16 an16 : Option Addr} {sl16 : Array (Option Value)} {oc16 kV16 dc16 pm16 cd16 ct16 : Value} {f17 : Addr} {od17 an17 : Option Addr} {sl17 : Array (Option Value)} {oc17 kV17 dc17 pm17 cd17 ct17 : Value} {f18 : Addr} {od18 an18 : Option Addr} {sl18 : Array (Option Value)} {oc18 kV18 dc18 pm18 cd18 ct18 : Value} {f19 : Addr} {od19 an19 : Option Addr} {sl19 : Array (Option Value)} {oc19 kV19 dc19 pm19 cd19 ct19 : Value} {f20 : Addr} {od20 an20 : Option Addr} {sl20 : Array (Option Value)} {oc20 kV20 dc20 pm20 cd20 ct20 : Value} {f21 : Addr} {od21 an21 : Option Addr} {sl21 : Array (Option Value)} {oc21 kV21 dc21 pm21 cd21 ct21 : Value} {f22 : Addr} {od22 an22 : Option Addr} {sl22 : Array (Option Value)} {oc22 kV22 dc22 pm22 cd22 ct22 : Value} {f23 : Addr} {od23 an23 : Option Addr} {sl23 : Array (Option Value)} {oc23 kV23 dc23 pm23 cd23 ct23 : Value} {f24 : Addr} {od24 an24 : Option Addr} {sl24 : Array (Option Value)} {oc24 kV24 dc24 pm24 cd24 ct24 : Value} {f25 : Addr} {od25 an25 : Option Addr} {sl25 : Array (Option Value)} {oc25 kV25 dc25 pm25 cd25 ct25 : Value} {f26 : Addr} {od26 an26 : Option Addr} {sl26 : Array (Option Value)} {oc26 kV26 dc26 pm26 cd26 ct26 : Value} {f27 : Addr} {od27 an27 : Option Addr} {sl27 : Array (Option Value)} {oc27 kV27 dc27 pm27 cd27 ct27 : Value} {f28 : Addr} {od28 an28 : Option Addr} {sl28 : Array (Option Value)} {oc28 kV28 dc28 pm28 cd28 ct28 : Value} {f29 : Addr} {od29 an29 : Option Addr} {sl29 : Array (Option Value)} {oc29 kV29 dc29 pm29 cd29 ct29 : Value} {f30 : Addr} {od30 an30 : Option Addr} {sl30 : Array (Option Value)} {oc30 kV30 dc30 pm30 cd30 ct30 : Value} (w0 : Wr K d_is_integer f0 od0 an0 sl0 oc0 kV0 dc0 pm0 cd0 ct0) (w1 : Wr K d_is_within f1 od1 an1 sl1 oc1 kV1 dc1 pm1 cd1 ct1) (w2 : Wr K d_is_sized f2 od2 an2 sl2 oc2 kV2 dc2 pm2 cd2 ct2) (w3 : Wr K d_are_pairs f3 od3 an3 sl3 oc3 kV3 dc3 pm3 cd3 ct3) (w4 : Wr K d_is_order f4 od4 an4 sl4 oc4 kV4 dc4 pm4 cd4 ct4) (w5 : Wr K d_check_order f5 od5 an5 sl5 oc5 kV5 dc5 pm5 cd5 ct5) (w6 : Wr K d_all_lots f6 od6 an6 sl6 oc6 kV6 dc6 pm6 cd6 ct6) (w7 : Wr K d_is_closed f7 od7 an7 sl7 oc7 kV7 dc7 pm7 cd7 ct7) (w8 : Wr K d_closed_lots f8 od8 an8 sl8 oc8 kV8 dc8 pm8 cd8 ct8) (w9 : Wr K d_are_weights_of f9 od9 an9 sl9 oc9 kV9 dc9 pm9 cd9 ct9) (w10 : Wr K d_check_weights f10 od10 an10 sl10 oc10 kV10 dc10 pm10 cd10 ct10) (w11 : Wr K d_weight_of f11 od11 an11 sl11 oc11 kV11 dc11 pm11 cd11 ct11) (w12 : Wr K d_best_of f12 od12 an12 sl12 oc12 kV12 dc12 pm12 cd12 ct12) (w13 : Wr K d_bests_of f13 od13 an13 sl13 oc13 kV13 dc13 pm13 cd13 ct13) (w14 : Wr K d_least_best f14 od14 an14 sl14 oc14 kV14 dc14 pm14 cd14 ct14) (w15 : Wr K d_greatest_in f15 od15 an15 sl15 oc15 kV15 dc15 pm15 cd15 ct15) (w16 : Wr K d_greatest_best f16 od16 an16 sl16 oc16 kV16 dc16 pm16 cd16 ct16) (w17 : Wr K d_all_best f17 od17 an17 sl17 oc17 kV17 dc17 pm17 cd17 ct17) (w18 : Wr K d_in_all f18 od18 an18 sl18 oc18 kV18 dc18 pm18 cd18 ct18) (w19 : Wr K d__law_hand f19 od19 an19 sl19 oc19 kV19 dc19 pm19 cd19 ct19) (w20 : Wr K d__law_draw f20 od20 an20 sl20 oc20 kV20 dc20 pm20 cd20 ct20) (w21 : Wr K d__law_some f21 od21 an21 sl21 oc21 kV21 dc21 pm21 cd21 ct21) (w22 : Wr K d__law_mixed f22 od22 an22 sl22 oc22 kV22 dc22 pm22 cd22 ct22) (w23 : Wr K d__law_close f23 od23 an23 sl23 oc23 kV23 dc23 pm23 cd23 ct23) (w24 : Wr K d__law_order f24 od24 an24 sl24 oc24 kV24 dc24 pm24 cd24 ct24) (w25 : Wr K d__law_lots f25 od25 an25 sl25 oc25 kV25 dc25 pm25 cd25 ct25) (w26 : Wr K d__law_closed f26 od26 an26 sl26 oc26 kV26 dc26 pm26 cd26 ct26) (w27 : Wr K d__law_weights f27 od27 an27 sl27 oc27 kV27 dc27 pm27 cd27 ct27) (w28 : Wr K d__law_weigh f28 od28 an28 sl28 oc28 kV28 dc28 pm28 cd28 ct28) (w29 : Wr K d__law_is f29 od29 an29 sl29 oc29 kV29 dc29 pm29 cd29 ct29) (w30 : Wr K d_law f30 od30 an30 sl30 oc30 kV30 dc30 pm30 cd30 ct30) (z0 : PySem.W.nsIn K mainGlobals "len" = some none) (z1 : PySem.W.nsIn K mainGlobals "sum" = some none) (z2 : PySem.W.nsIn K mainGlobals "min" = some none) (z3 : PySem.W.nsIn K mainGlobals "max" = some none) (z4 : PySem.W.nsIn K mainGlobals "sorted" = some none) (z5 : PySem.W.nsIn K mainGlobals "tuple" = some none) (z6 : PySem.W.nsIn K mainGlobals "list" = some none) (z7 : PySem.W.nsIn K mainGlobals "dict" = some none) (z8 : PySem.W.nsIn K mainGlobals "abs" = some none) (z9 : PySem.W.nsIn K mainGlobals "int" = some none) (z10 : PySem.W.nsIn K mainGlobals "any" = some none) (z11 : PySem.W.nsIn K mainGlobals "all" = some none) (z12 : PySem.W.nsIn K mainGlobals "isinstance" = some none) (z13 : PySem.W.nsIn K mainGlobals "range" = some none) (z14 : PySem.W.nsIn K mainGlobals "zip" = some none) (z15 : PySem.W.nsIn K mainGlobals "enumerate" = some none) (z16 : PySem.W.nsIn K mainGlobals "bool" = some none) (z17 : PySem.W.nsIn K mainGlobals "str" = some none) {t0 : Tok} (q0 : PySem.W.nsIn K mainGlobals "MOST_POINTS" = some (some (.int (8) t0))) {t1 : Tok} (q1 : PySem.W.nsIn K mainGlobals "MOST_ARROWS" = some (some (.int (56) t1))) {t2 : Tok} (q2 : PySem.W.nsIn K mainGlobals "MOST_WEIGHT" = some (some (.int (1000) t2))) :
    ∃ fd : FuncData, (∀ (s : Shared) (v : Value), BindsTo s fd ⟨[v], []⟩ [("script", v)]) ∧ ∀ base : Heap, K.In base → base.Ns mainGlobals mg → FnOk PySem.Challenge.pw_aheadhouse_k84_whole_all_best_closed_lot w K mg base CX0 12 fa fd ["script"] (spI K (run fns 1000 12 30)) := by
  have hF : ∀ (f : Nat) (e : Df), tb[f]? = some e → ∃ fa fd, Fun K e.nm e.nm e.st fa fd ∧ mg e.nm = some (.ref fa) ∧ ∀ us : List Value, us.length = e.ps.length → bindArgs fd ⟨us, []⟩ = pure (e.ps.zip us) := fun f e he => by
    match f, he with
    | 0, he => exact (Option.some.inj he) ▸ wr_ok X G w0 b2_is_integer
    | 1, he => exact (Option.some.inj he) ▸ wr_ok X G w1 b2_is_within
    | 2, he => exact (Option.some.inj he) ▸ wr_ok X G w2 b2_is_sized
    | 3, he => exact (Option.some.inj he) ▸ wr_ok X G w3 b2_are_pairs
    | 4, he => exact (Option.some.inj he) ▸ wr_ok X G w4 b2_is_order
    | 5, he => exact (Option.some.inj he) ▸ wr_ok X G w5 b2_check_order
    | 6, he => exact (Option.some.inj he) ▸ wr_ok X G w6 b2_all_lots
    | 7, he => exact (Option.some.inj he) ▸ wr_ok X G w7 b2_is_closed
    | 8, he => exact (Option.some.inj he) ▸ wr_ok X G w8 b2_closed_lots
    | 9, he => exact (Option.some.inj he) ▸ wr_ok X G w9 b2_are_weights_of
    | 10, he => exact (Option.some.inj he) ▸ wr_ok X G w10 b2_check_weights
    | 11, he => exact (Option.some.inj he) ▸ wr_ok X G w11 b2_weight_of
    | 12, he => exact (Option.some.inj he) ▸ wr_ok X G w12 b2_best_of
    | 13, he => exact (Option.some.inj he) ▸ wr_ok X G w13 b2_bests_of
    | 14, he => exact (Option.some.inj he) ▸ wr_ok X G w14 b2_least_best
    | 15, he => exact (Option.some.inj he) ▸ wr_ok X G w15 b2_greatest_in
    | 16, he => exact (Option.some.inj he) ▸ wr_ok X G w16 b2_greatest_best
    | 17, he => exact (Option.some.inj he) ▸ wr_ok X G w17 b2_all_best
    | 18, he => exact (Option.some.inj he) ▸ wr_ok X G w18 b2_in_all
    | 19, he => exact (Option.some.inj he) ▸ wr_ok X G w19 b2__law_hand
    | 20, he => exact (Option.some.inj he) ▸ wr_ok X G w20 b2__law_draw
    | 21, he => exact (Option.some.inj he) ▸ wr_ok X G w21 b2__law_some
    | 22, he => exact (Option.some.inj he) ▸ wr_ok X G w22 b2__law_mixed
    | 23, he => exact (Option.some.inj he) ▸ wr_ok X G w23 b2__law_close
    | 24, he => exact (Option.some.inj he) ▸ wr_ok X G w24 b2__law_order
    | 25, he => exact (Option.some.inj he) ▸ wr_ok X G w25 b2__law_lots
    | 26, he => exact (Option.some.inj he) ▸ wr_ok X G w26 b2__law_closed
    | 27, he => exact (Option.some.inj he) ▸ wr_ok X G w27 b2__law_weights
    | 28, he => exact (Option.some.inj he) ▸ wr_ok X G w28 b2__law_weigh
    | 29, he => exact (Option.some.inj he) ▸ wr_ok X G w29 b2__law_is
    | 30, he => exact (Option.some.inj he) ▸ wr_ok X G w30 b2_law
    | k + 31, he => exact nomatch he
  have hM : ∀ e ∈ tb, mSs ⟨e.N, namesOf tb, GC⟩ (defScope e.st) (fun _ => true) e.body (defBody e.st) = true := fun e he => by
    simp only [tb, List.mem_cons, List.not_mem_nil, or_false] at he
    rcases he with rfl | rfl | rfl | rfl | rfl | rfl | rfl | rfl | rfl | rfl | rfl | rfl | rfl | rfl | rfl | rfl | rfl | rfl | rfl | rfl | rfl | rfl | rfl | rfl | rfl | rfl | rfl | rfl | rfl | rfl | rfl
    · exact m_is_integer
    · exact m_is_within
    · exact m_is_sized
    · exact m_are_pairs
    · exact m_is_order
    · exact m_check_order
    · exact m_all_lots
    · exact m_is_closed
    · exact m_closed_lots
    · exact m_are_weights_of
    · exact m_check_weights
    · exact m_weight_of
    · exact m_best_of
    · exact m_bests_of
    · exact m_least_best
    · exact m_greatest_in
    · exact m_greatest_best
    · exact m_all_best
    · exact m_in_all
    · exact m__law_hand
    · exact m__law_draw
    · exact m__law_some
    · exact m__law_mixed
    · exact m__law_close
    · exact m__law_order
    · exact m__law_lots
    · exact m__law_closed
    · exact m__law_weights
    · exact m__law_weigh
    · exact m__law_is
    · exact m_law
  have hS : ∀ e ∈ tb, FnScope e.N e.ps (defScope e.st) := fun e he => by
    simp only [tb, List.mem_cons, List.not_mem_nil, or_false] at he
    rcases he with rfl | rfl | rfl | rfl | rfl | rfl | rfl | rfl | rfl | rfl | rfl | rfl | rfl | rfl | rfl | rfl | rfl | rfl | rfl | rfl | rfl | rfl | rfl | rfl | rfl | rfl | rfl | rfl | rfl | rfl | rfl
    · exact s_is_integer
    · exact s_is_within
    · exact s_is_sized
    · exact s_are_pairs
    · exact s_is_order
    · exact s_check_order
    · exact s_all_lots
    · exact s_is_closed
    · exact s_closed_lots
    · exact s_are_weights_of
    · exact s_check_weights
    · exact s_weight_of
    · exact s_best_of
    · exact s_bests_of
    · exact s_least_best
    · exact s_greatest_in
    · exact s_greatest_best
    · exact s_all_best
    · exact s_in_all
    · exact s__law_hand
    · exact s__law_draw
    · exact s__law_some
    · exact s__law_mixed
    · exact s__law_close
    · exact s__law_order
    · exact s__law_lots
    · exact s__law_closed
    · exact s__law_weights
    · exact s__law_weigh
    · exact s__law_is
    · exact s_law
  have hb : ∀ x ∈ bltNames, mg x = none := fun x hx => by
    simp only [bltNames, List.mem_cons, List.not_mem_nil, or_false] at hx
    rcases hx with rfl | rfl | rfl | rfl | rfl | rfl | rfl | rfl | rfl | rfl | rfl | rfl | rfl | rfl | rfl | rfl | rfl | rfl
    · exact PySem.W.mg_none_of X G z0
    · exact PySem.W.mg_none_of X G z1
    · exact PySem.W.mg_none_of X G z2
    · exact PySem.W.mg_none_of X G z3
    · exact PySem.W.mg_none_of X G z4
    · exact PySem.W.mg_none_of X G z5
    · exact PySem.W.mg_none_of X G z6
    · exact PySem.W.mg_none_of X G z7
    · exact PySem.W.mg_none_of X G z8
    · exact PySem.W.mg_none_of X G z9
    · exact PySem.W.mg_none_of X G z10
    · exact PySem.W.mg_none_of X G z11
    · exact PySem.W.mg_none_of X G z12
    · exact PySem.W.mg_none_of X G z13
    · exact PySem.W.mg_none_of X G z14
    · exact PySem.W.mg_none_of X G z15
    · exact PySem.W.mg_none_of X G z16
    · exact PySem.W.mg_none_of X G z17
  have hc : ∀ x d, GC.lookup x = some d → ∃ v u, mg x = some u ∧ RelV v u ∧ ∀ F, DP K F v d := fun x d hx => by
    unfold GC at hx
    rw [List.lookup_cons] at hx
    split at hx
    · rename_i e1
      have e2 := eq_of_beq e1
      subst e2
      cases hx
      exact ⟨.int (8), _, PySem.W.mg_of X G q0, ⟨_, rfl⟩, fun F => .int _⟩
    rw [List.lookup_cons] at hx
    split at hx
    · rename_i e1
      have e2 := eq_of_beq e1
      subst e2
      cases hx
      exact ⟨.int (56), _, PySem.W.mg_of X G q1, ⟨_, rfl⟩, fun F => .int _⟩
    rw [List.lookup_cons] at hx
    split at hx
    · rename_i e1
      have e2 := eq_of_beq e1
      subst e2
      cases hx
      exact ⟨.int (1000), _, PySem.W.mg_of X G q2, ⟨_, rfl⟩, fun F => .int _⟩
    cases hx
  obtain ⟨fa1, fd1, h1, h2, h3⟩ := all_ok (P := PySem.Challenge.pw_aheadhouse_k84_whole_all_best_closed_lot) (w := w) 1000 hF hS hM hb hc 12 30 d_law rfl
  have h1 : mg "law" = some (.ref fa1) := h1
  rw [hfa] at h1
  cases h1
  exact ⟨fd1, fun s v => .of_eq (h2 [v] rfl), fun base _ _ => h3 base⟩
end K84
open PySem PySem.W PyProof.Rows
set_option maxHeartbeats 0 in
theorem PySem.Challenge.cw_aheadhouse_k84_whole_all_best_closed_lot_holds : PySem.Challenge.rw_aheadhouse_k84_whole_all_best_closed_lot.Holds := by
  w_on; o_law; k_head; (case hw => w_witness2)
  k_fill
  refine L2.walk_of (l := PySem.Challenge.rw_aheadhouse_k84_whole_all_best_closed_lot) (n := 63) (k := 12) (x := "script") (CX := fun _ => L2.CX0) (sp := fun w => PI.spI _ (PI.run K84.fns 1000 12 30)) rfl (by decide) rfl ⟨rfl, by decide, by decide⟩ (fun w h Y => PySem.W.kIn_of Y) ?F (fun _ _ a ns hl _ hS => (let ⟨fr, hr⟩ := K84.plain ns hl; PI.law_sp hS hr)) (fun _ _ _ _ _ h => h)
  case F =>
    intro w mg fa h KX G hmg
    refine' K84.law_fn KX G hmg ⟨?a0, ?l0, ?c0, ?k0⟩ ⟨?a1, ?l1, ?c1, ?k1⟩ ⟨?a2, ?l2, ?c2, ?k2⟩ ⟨?a3, ?l3, ?c3, ?k3⟩ ⟨?a4, ?l4, ?c4, ?k4⟩ ⟨?a5, ?l5, ?c5, ?k5⟩ ⟨?a6, ?l6, ?c6, ?k6⟩ ⟨?a7, ?l7, ?c7, ?k7⟩ ⟨?a8, ?l8, ?c8, ?k8⟩ ⟨?a9, ?l9, ?c9, ?k9⟩ ⟨?a10, ?l10, ?c10, ?k10⟩ ⟨?a11, ?l11, ?c11, ?k11⟩ ⟨?a12, ?l12, ?c12, ?k12⟩ ⟨?a13, ?l13, ?c13, ?k13⟩ ⟨?a14, ?l14, ?c14, ?k14⟩ ⟨?a15, ?l15, ?c15, ?k15⟩ ⟨?a16, ?l16, ?c16, ?k16⟩ ⟨?a17, ?l17, ?c17, ?k17⟩ ⟨?a18, ?l18, ?c18, ?k18⟩ ⟨?a19, ?l19, ?c19, ?k19⟩ ⟨?a20, ?l20, ?c20, ?k20⟩ ⟨?a21, ?l21, ?c21, ?k21⟩ ⟨?a22, ?l22, ?c22, ?k22⟩ ⟨?a23, ?l23, ?c23, ?k23⟩ ⟨?a24, ?l24, ?c24, ?k24⟩ ⟨?a25, ?l25, ?c25, ?k25⟩ ⟨?a26, ?l26, ?c26, ?k26⟩ ⟨?a27, ?l27, ?c27, ?k27⟩ ⟨?a28, ?l28, ?c28, ?k28⟩ ⟨?a29, ?l29, ?c29, ?k29⟩ ⟨?a30, ?l30, ?c30, ?k30⟩ ?z0 ?z1 ?z2 ?z3 ?z4 ?z5 ?z6 ?z7 ?z8 ?z9 ?z10 ?z11 ?z12 ?z13 ?z14 ?z15 ?z16 ?z17 ?q0 ?q1 ?q2
    (case a0 => k_is); (case l0 => k_is); (case c0 => k_is); (case k0 => k_is)
    (case a1 => k_is); (case l1 => k_is); (case c1 => k_is); (case k1 => k_is)
    (case a2 => k_is); (case l2 => k_is); (case c2 => k_is); (case k2 => k_is)
    (case a3 => k_is); (case l3 => k_is); (case c3 => k_is); (case k3 => k_is)
    (case a4 => k_is); (case l4 => k_is); (case c4 => k_is); (case k4 => k_is)
    (case a5 => k_is); (case l5 => k_is); (case c5 => k_is); (case k5 => k_is)
    (case a6 => k_is); (case l6 => k_is); (case c6 => k_is); (case k6 => k_is)
    (case a7 => k_is); (case l7 => k_is); (case c7 => k_is); (case k7 => k_is)
    (case a8 => k_is); (case l8 => k_is); (case c8 => k_is); (case k8 => k_is)
    (case a9 => k_is); (case l9 => k_is); (case c9 => k_is); (case k9 => k_is)
    (case a10 => k_is); (case l10 => k_is); (case c10 => k_is); (case k10 => k_is)
    (case a11 => k_is); (case l11 => k_is); (case c11 => k_is); (case k11 => k_is)
    (case a12 => k_is); (case l12 => k_is); (case c12 => k_is); (case k12 => k_is)
    (case a13 => k_is); (case l13 => k_is); (case c13 => k_is); (case k13 => k_is)
    (case a14 => k_is); (case l14 => k_is); (case c14 => k_is); (case k14 => k_is)
    (case a15 => k_is); (case l15 => k_is); (case c15 => k_is); (case k15 => k_is)
    (case a16 => k_is); (case l16 => k_is); (case c16 => k_is); (case k16 => k_is)
    (case a17 => k_is); (case l17 => k_is); (case c17 => k_is); (case k17 => k_is)
    (case a18 => k_is); (case l18 => k_is); (case c18 => k_is); (case k18 => k_is)
    (case a19 => k_is); (case l19 => k_is); (case c19 => k_is); (case k19 => k_is)
    (case a20 => k_is); (case l20 => k_is); (case c20 => k_is); (case k20 => k_is)
    (case a21 => k_is); (case l21 => k_is); (case c21 => k_is); (case k21 => k_is)
    (case a22 => k_is); (case l22 => k_is); (case c22 => k_is); (case k22 => k_is)
    (case a23 => k_is); (case l23 => k_is); (case c23 => k_is); (case k23 => k_is)
    (case a24 => k_is); (case l24 => k_is); (case c24 => k_is); (case k24 => k_is)
    (case a25 => k_is); (case l25 => k_is); (case c25 => k_is); (case k25 => k_is)
    (case a26 => k_is); (case l26 => k_is); (case c26 => k_is); (case k26 => k_is)
    (case a27 => k_is); (case l27 => k_is); (case c27 => k_is); (case k27 => k_is)
    (case a28 => k_is); (case l28 => k_is); (case c28 => k_is); (case k28 => k_is)
    (case a29 => k_is); (case l29 => k_is); (case c29 => k_is); (case k29 => k_is)
    (case a30 => k_is); (case l30 => k_is); (case c30 => k_is); (case k30 => k_is)
    (case z0 => k_is)
    (case z1 => k_is)
    (case z2 => k_is)
    (case z3 => k_is)
    (case z4 => k_is)
    (case z5 => k_is)
    (case z6 => k_is)
    (case z7 => k_is)
    (case z8 => k_is)
    (case z9 => k_is)
    (case z10 => k_is)
    (case z11 => k_is)
    (case z12 => k_is)
    (case z13 => k_is)
    (case z14 => k_is)
    (case z15 => k_is)
    (case z16 => k_is)
    (case z17 => k_is)
    (case q0 => k_is)
    (case q1 => k_is)
    (case q2 => k_is)

